import PyProof.Rows.All
import Wide.All
import OpenK.AllK
import Wide.FinOn
import PySem.Challenge.RW_pq0098_01
set_option Elab.async false
set_option tactic.hygienic false
set_option maxRecDepth 100000
set_option maxHeartbeats 8000000
set_option linter.all false
set_option genSizeOf false
set_option genSizeOfSpec false
set_option bootstrap.genMatcherCode false
set_option compiler.extract_closed false
set_option compiler.reuse false
namespace Mine
open Lean
def ytl (x : String) : String := .ofList (x.toList.drop 1)
def ynm (k : String) : Name := (k.splitOn ".").foldl (fun n c => if c == "T" then `Lean.Parser.Tactic else if c == "M" then `Lean.Parser.Term else .mkStr n c) .anonymous
def yst1 (v : Array (List Syntax)) (st : List (String × List Syntax)) (x : String) : List (String × List Syntax) :=
  if x.front == '(' then (ytl x, []) :: st else
  match st with
  | [] => []
  | (k, a) :: r => if x == ")" then (match r with
      | [] => st
      | (l, b) :: r => (l, .node .none (ynm k) a.reverse.toArray :: b) :: r)
    else (k, if x.front == '$' then (v.getD ((ytl x).toNat?.getD 0) []).reverse ++ a else (if x.front == '`' then .ident .none (ytl x).toRawSubstring (ynm (ytl x)) [] else .atom .none x) :: a) :: r
def yab (x : String) : List String := (if x == "{" then "(T.tacticSeq (T.tacticSeq1Indented (null" else if x == "}" then ") ) )" else if x == "<" then "(T.first first (null" else if x == ">" then ") )" else if x == "_" then "(M.hole o )" else if x == "?" then "(M.syntheticHole o o )" else x).splitOn " "
def yx (s : String) (v : Array (List Syntax)) : Syntax :=
  (((((s.splitOn " ").flatMap yab).filter (· != "")).foldl (yst1 v) [("", [])]).headD ("", [])).2.headD .missing
def yk (t : Syntax) (k : List Name) : Bool := (t.find? fun s => k.contains s.getKind).isSome
def yall (p : String → String) (l : String) : String := " ".intercalate ((l.splitOn " ").map p)
def ysm (l : List Syntax) : List Syntax := l.intersperse (.atom .none ";")
def yrw (s : Syntax) : Syntax :=
  let one (r : Syntax) : Syntax :=
    let f := if r[0].getNumArgs == 0 then "rwrr" else "rwll"
    yx ("< " ++ ((if yk r [`Lean.Parser.Term.byTactic, `Lean.Parser.Term.nomatch, `Lean.Parser.Term.nofun, `Lean.Parser.Term.syntheticHole] then "" else
      yall (fun k => "(group | { (T.withReducible w { (T.refine r (M.app `" ++ f ++ " (null " ++ k ++ " ? ) ) ) } ) } )") "$0 (M.app·$0·(null·_·)·) (M.app·$0·(null·_·_·)·) (M.app·$0·(null·_·_·_·)·)").replace "·" " ") ++
      " (group | { (T.rewriteSeq r $2 (T.rwRuleSeq [ (null $1 ) ] ) (null ) ) } ) >") #[[r[1]], [r], [s[1]]]
  yx "(T.paren p { $0 ; (T.tacticTry_ t { (T.withReducible w { (T.tacticRfl r ) } ) } ) } p )" #[ysm (s[2][1].getSepArgs.toList.map one)]
def yin (l : List Syntax) : Syntax := yx "(T.intro i (null $0 ) )" #[l]
def yo (p t : Syntax) : Syntax := yx "(T.obtain o (null $0 ) (null ) (null := (null $1 ) ) )" #[[p], [t]]
def yid (s : String) (n : Nat) : Syntax := yx ("`" ++ s ++ toString n) #[]
def ypt (ps : List Syntax) : List Syntax :=
  let s := ps.foldl (fun (s : List Syntax × List Syntax) q => if q[1].getNumArgs == 0 && q[0][0].getNumArgs == 1 && q[0][0][0].getNumArgs == 1 && q[0][0][0][0].isIdent then (s.1, s.2 ++ [q[0][0][0][0]]) else
    let y := yid "q✝" s.1.length
    (s.1 ++ [yin (s.2 ++ [y]), yo q[0] y], [])) ([], [])
  if s.2.isEmpty then s.1 else s.1 ++ [yin s.2]
def yob (p t : Syntax) : Option Syntax :=
  let ps := p[1].getSepArgs.toList
  let n := ps.length
  if n < 2 then none else
  some (yx ("< " ++ yall (fun e => let e := e.length - 1; if e < n && n - e ≤ 8 then "(group | { (T.refine r (M.app `x" ++ toString e ++ "_" ++ toString (n - e) ++ " (null $1 ? ) ) ) ;" ++ (if t.isIdent then " (T.tacticTry_ t { (T.clear c (null $1 ) ) } ) ;" else "") ++ " $2 } )" else "") "1 11 111 1111 11111" ++
    " (group | { (T.rcases r (null (T.elimTarget (null ) $1 ) ) (null w (T.rcasesPatLo (T.rcasesPatMed (null $0 ) ) (null ) ) ) ) } ) >") #[[p], [t], ysm (ypt ps)])
def yfn (l : List Syntax) : Option (List Syntax × List Syntax) :=
  l.foldr (fun s o => o.bind fun p =>
    if s.isOfKind `Lean.Parser.Term.anonymousCtor then
      let y := yid "p✝" p.1.length
      let c := s[1].getSepArgs.toList
      if c.any (fun x => !x.isIdent && x.getNumArgs != 1) then none else
      some (y :: p.1, yo (yx "(T.rcasesPatMed (null (T.rcasesPat.tuple ⟨ (null $0 ) ⟩ ) ) )" #[(c.map fun x => yx ("(T.rcasesPatLo (T.rcasesPatMed (null " ++ (if x.isIdent then "(T.rcasesPat.one $0 )" else "(T.rcasesPat.ignore o )") ++ " ) ) (null ) )") #[[x]]).intersperse (.atom .none ",")]) y :: p.2)
    else some (s :: p.1, p.2)) (some ([], []))
def yfun (s : Syntax) : Option Syntax :=
  if !(s[1][0].getArgs.any fun x => x.isOfKind `Lean.Parser.Term.anonymousCtor) || yk s[1][3] [`Lean.Parser.Term.syntheticHole] then none else
  (yfn s[1][0].getArgs.toList).bind fun p => if p.2.isEmpty then none else
  some (yx "(M.fun f (M.basicFun (null $0 ) (null ) => (M.byTactic b { $1 ; (T.exact e $2 ) } ) ) )" #[p.1, ysm p.2, [s[1][3]]])
def yca (x : Syntax) : Syntax :=
  let c := " (T.cases c (null (T.elimTarget (null ) $0 ) ) (null ) (null ) )"
  let i (n : String) : String := "(group | { (T.withReducible w { (T.refine r (M.app `" ++ n ++ " (null $0 ? ) ) ) } ) ; (T.clear c (null $0 ) ) ; (T.intro i (null $0"
  yx ("< " ++ yall (fun n => "(group | { (T.exact e (M.app `" ++ n ++ " (null $0 ) ) ) } )") "nos non cs_tf cs_ft cs_nc cs_cn" ++ " " ++ yall (fun n => i n ++ " ) ) ;" ++ c ++ " } )") "cs_some cs_vref cs_raw cs_tup cs_int cs_str" ++ " " ++
    yall (fun n => i n ++ " `y ) ) ;" ++ c ++ " ;" ++ c.replace "$0" "`y" ++ " } )") "cs_pair cs_cons" ++ " (group | { (T.subst s (null $0 ) ) } ) " ++
    yall (fun n => "(group | {" ++ c.replace ") (null ) (null )" (") (null using `" ++ n ++ " ) (null )") ++ " } )") "RepO.listE RepO.dictE RepO.attrsE RepO.rawE RepV.tupE RepV.intE RepV.strE RepV.rawE RepV.objE RepL.nilE RepL.consE" ++ " >") #[[x]]
def yw (s : Syntax) : Option Syntax :=
  let w (l : String) := "(group | { (T.withReducible w { < " ++ yall (fun n => "(group | { (T.refine r (M.app `" ++ n ++ " (null ? ) ) ) } )") l ++ " > } ) } )"
  let n := "e_nm l_cons l_nil e_int e_str e_none e_bool"
  let z := " (group | { (T.refine r (M.anonymousCtor ⟨ (null (M.app `Nat.le_of_ble_eq_true (null `rfl ) ) , ? ) ⟩ ) ) } )"
  let r (l : String) := some (yx ("(T.tacticRepeat_ r { < " ++ l ++ " > } )") #[])
  if s.getId == `ww then r (w n) else if s.getId == `wq then r (w ("e_tuple " ++ n) ++ z) else if s.getId == `wp then r (w "e_tuple e_gA e_gB e_gC e_str l_nil l_cons e_nm" ++ z) else none
def yor (o : Option Syntax) : MacroM Syntax := match o with | some s => pure s | none => Macro.throwUnsupported
end Mine
local macro_rules (kind := Lean.Parser.Tactic.rwSeq) | s => Mine.yor (if s[3].getNumArgs == 0 then some (Mine.yrw s) else none)
local macro_rules (kind := Lean.Parser.Tactic.obtain) | s => Mine.yor (let p := s[1][0][0]; if p.getNumArgs == 1 && p[0].getNumArgs == 3 && s[2].getNumArgs == 0 && s[3].getNumArgs == 2 then Mine.yob p[0] s[3][1][0] else none)
local macro_rules (kind := Lean.Parser.Term.fun) | s => Mine.yor (if s[1].getNumArgs == 4 && s[1][1].getNumArgs == 0 then Mine.yfun s else none)
local macro_rules (kind := Lean.Parser.Tactic.cases) | s => Mine.yor (if s[1].getNumArgs == 1 && s[1][0][0].getNumArgs == 0 && s[1][0][1].isIdent && s[2].getNumArgs == 0 && s[3].getNumArgs == 0 then some (Mine.yca s[1][0][1]) else none)
local macro_rules (kind := Lean.Parser.Tactic.show) | s => Mine.yor (Mine.yw s[1])
open _root_ renaming List->ae,Int->aj,absurd->ax,Array->ay,Option->aB,if_neg->aK,decide_eq_false->cu,StateT->cW,String->dK,ForInStep->e_,of_decide_eq_true->k9,beq_self_eq_true->ni,beq_eq_false_iff_ne->pW,getElem?_pos->p9,beq_iff_eq->qa,bne_iff_ne->qb,Decidable->ux,PUnit->yG,of_decide_eq_false->Av,decide_eq_decide->AB,decide_eq_true_eq->N3,bne_self_eq_false->N7
open PySem renaming wpAny->ai,wpAny_pure->aq,Params->bg,Around->bo,Sem->bw,wpAny_mono->bT,wpAny_holding->cq,rawInt->cz,Builtin->cF,pyNext->cR,wpAny_bind->cS,OsState->c6,wpAny_setField_rec->dX,wpAny_call_entry->dY,Tok->el,wpAny_field->eE,sizeLine_eq->eZ,wpAny_standAt->fi,wpAny_rule->fj,codeAny->fX,IsPair->gM,foldedSetIterable->g0,starEach->g_,pyIter->hW,wpAny_callSpecial?_slot->iM,wpAny_newObj_type->iO,standAt->iU,IsZip->i5,setField->jh,getItem->jk,wpAny_ite_split->jB,wpAny_seqItems->jC,treeTable->jE,backTo->jI,letOwnedTupleGo->k_,wpAny_attempt->lq,wpAny_specialOf->lU,codeAny_mono->lV,mainGlobals->lX,assignEach->lY,codeAny_builtin->nj,wpAny_dictEntries->ou,wpAny_typeOf->oy,wpAny_askSetting->pY,callEnvC->qg,callWith->qh,setNext->ql,newList->qm,IsEnum->qv,ofAClassStatement->rQ,wpAny_truthy_bool->rR,wpAny_setState_of->rT,hashByValue->rZ,bindArgs->sg,Meets->sL,wpAny_notOrdered_dict->t4,wpAny_pyIter_tuple->t5,wpAny_isInstance->t8,wpAny_dictEpoch->t9,wpAny_fieldsOf->ua,Comprehension->uc,assignInOrder->ue,wpAny_letGo->ug,call_meets->uk,sysModules->um,typeLookup->uo,pickOrder->uv,swapsWith->uw,builtinLookup_eq_fast->xm,wpAny_pyIter_list->xq,wpAny_updateSeq->xu,typeLookup_type->xv,wpAny_newTuple->xy,wpAny_bindName->xB,setAddHashedIn->xC,swapsWithSole->xD,wpAny_onRaise->xE,swappedStores->xF,wpAny_of_eq->xI,updateSeq->xK,seqItems?->xM,getMethod->xN,cellsFrom->xO,bindName->xT,dictSet->ya,dictGet->yb,wpAny_typeNameOfWhole_itemiter->Ad,wpAny_typeNameOfWhole_keyiter->Ae,wpAny_typeNameOf_itemiter->Ag,wpAny_typeNameOf_keyiter->Aj,getattributeRaised->Au,wpAny_assign_Name->Ax,wpAny_sequenceKey->Az,wpAny_pyIter_slot->AA,firstArgMember->AK,unpackItems->AS,wpAny_load->AY,setsByText->AZ,seqIndex?->A7,storeSet->Bi,newTuple->Bj,getAttr?->Bk,setState->Bl,Operator->Bn,Result->B_,wpAny_isOneOf_itemiter->Fd,wpAny_updateSeq_pair->Fj,wpAny_updateDictKeys->Fo,wpAny_setEntries_of->Fq,wpAny_setEpoch_of->Fv,searchCouldBeSeen->Fw,wpAny_forIn_list->Fy,notIterableAtAll->FA,arm_exec_Assign->FG,codeAny_of_tree->FH,dictSetDefault->FK,isSubtype_stop->FL,isSubtype_type->FO,strLen_append->FR,behindInMarks->FV,callType_new->FZ,setNextDrawn->F0,keywordEach->F_,reduceHash->Gi,noteFrame->Gv,IsEnumOut->Gy,slicePick->Gz,eqIsQuiet->GA,compareOp->GC,arm_evalThenUse_ListComp->M_,wpAny_pyNext_tuple_item->Nj,wpAny_pyNext_list_item->Nm,wpAny_pyNext_tuple_end->Nn,getitemInPython_of_ne->Nq,exec_Assign_Name_used->Nx,wpAny_pyNext_list_end->Ny,wpAny_isOneOf_keyiter->Nz,wpAny_raiseAttrError->NA,arm_assign_Subscript->ND,wpAny_Constant_int->NL,sub_AttributeError->NT,wpAny_tupleItemsOf->NU,wpAny_dictFind_of->NX,slot_list_getitem->NZ,eqIsQuiet_byValue->N5,entry_list_append->N6,slot_list_setitem->N8,wpAny_comp_letGo->N_,wpAny_pyHash_str->N',wpAny_pyHash_int->Oa,wpAny_pyIter_zip->Ob,slot_list_append->Oc,args_list_append->Od,beq_builtin_none->Oe,noFill_tuple_add->Og,arm_allTrue_cons->Oo,theTreesLotGoes->Ou,wpAny_loadPart'->OA,letTemporaryGo->OG,wpAny_setField->OH,wpAny_runValue->OJ,wpAny_loadPart->OK,wpAny_newList->ON,setSearchFrom->OO,seq_tuple_add->OS,bootBuiltins->O6
open List renaming length_map->ar,mem_map->aU,mem_singleton->aW,mem_cons->aY,length_append->bQ,map_append->bX,mem_append->cy,getElem?_eq_getElem->cL,mem_of_getElem?->cO,getElem?_map->cP,map_map->cQ,getElem?_eq_some_iff->cV,range->c7,map_cons->eQ,take_add_one->fh,nodup_nil->fA,nodup_cons->fF,mem_append_left->gc,length_cons->gh,getElem_mem->gK,mem_range->gL,take_length->g8,getD_eq_getElem?_getD->ip,mem_append_right->iN,not_mem_nil->jf,length_take->jA,append_nil->lT,getElem?_append_left->mZ,length_range->m_,getElem?_append_right->oo,nodup_append->ot,all_eq_true->ox,map_congr_left->pX,take_zero->pZ,sum_cons->p0,map_id->p_,take_of_length_le->rO,filterMap_cons->rP,size_toArray->rS,sum_append->rU,mem_filter->rV,map->r9,replicate->t_,findIdx?_cons->xo,nodup_range->xt,forIn_cons->xx,length->xH,length_erase_of_mem->Ak,length_pos_of_mem->Al,getElem?_set_self->An,getElem?_eq_none->Ap,drop_eq_nil_iff->Aq,getElem?_set_ne->As,length_range'->Aw,append_assoc->Ay,length_set->AD,forIn_nil->AJ,range'->AU,cons->A5,drop_eq_getElem_cons->E7,pairwise_iff_getElem->E8,length_filterMap_le->E_,find?_cons_of_neg->Fb,find?_cons_of_pos->Fc,length_eq_one_iff->Fe,take_append_drop->Ff,mem_iff_getElem?->Fg,length_singleton->Fh,getElem?_toArray->Fi,mem_iff_getElem->Fn,mem_cons_of_mem->Fp,mem_map_of_mem->Ft,filter_append->Fu,filterMap->FN,Perm->GB,getElem?_eq_none_iff->M0,filter_cons_of_pos->Nf,eraseIdx_cons_succ->Ni,length_eq_zero_iff->Nk,drop_eq_nil_of_le->Nl,concat_eq_append->Nr,eq_nil_or_concat->Nt,length_filter_le->Nv,contains_iff_mem->Nw,mem_erase_of_ne->NC,length_take_le->NG,map_eq_nil_iff->NI,getElem_of_mem->NJ,filterMap_map->NK,map_filterMap->NM,mem_cons_self->NN,zip_cons_cons->NP,pairwise_cons->NS,getElem?_drop->NV,find?_eq_none->NW,pairwise_map->NY,getElem?_inj->N0,ext_getElem?->N1,filter_congr->N2,append_cons->Of,length_drop->Oh,countP_cons->Oi,map_snd_zip->Oj,mem_flatMap->Om,take_range->Oq,range_succ->Ot,modify_nil->Ov,length_nil->Ow,foldl_cons->Oy,filter_nil->OB,map_take->OQ,Pairwise->OU
open PyProof.Rows renaming SortSt->aG,wpS_pure->br,pendingOf->cb,wpS->cC,arrOf->cG,Keyed->cI,wpS_bind->eF,SortKind->fV,seqObj->lu,wpS_get->nC,wpS_modify->r3,wpS_lift->r_,failedOf->se,wpS_mono->uD,pairsOf->uR,pairsOf_toList->AG,wpAny_release'->AI,wpS_forRange->AM,wpAny_operate'->FP,subscriptTail->FT,pairsOf_size->FY,mem_zip_self->F6,countRun'->Gx,joinParts_cons->OI,slicePart_none->OL,listUpdate_at->OT
open Array renaming length_toList->ck,getElem?_toList->dR,getElem?_eq_getElem->pV,getElem?_eq_some_iff->tY,toList_push->t6,getElem_mem->t7,isEmpty_iff_size_eq_zero->xf,getD_eq_getD_getElem?->xi,toArray_toList->xn,eraseIdxIfInBounds->Ai,getElem?_eq_none->Am,mem_toList_iff->Ar,size_map->AH,any_toList->FC,toList_map->FD,replicate->FE,getElem?_setIfInBounds_self->MS,getElem?_setIfInBounds_ne->MU,toList_eraseIdx->Nu,toList_modify->NH,size_extract->NO,forIn_toList->NQ
open Int renaming le_refl->c_,natCast_nonneg->gf,ofNat_lt->iP,toNat_natCast->kp,natCast_add->kq,ofNat_le->lW,not_lt->uq,fmod_eq_emod_of_nonneg->Af,sub_zero->AL,natCast_mul->FF,ofNat_sub->FU,eq_ofNat_of_zero_le->Nh,add_sub_cancel->NR,max_eq_right->N9,min_eq_left->Ox,emod_nonneg->Oz
open Option renaming map_eq_some_iff->dA,map_some->AE,isNone_iff_eq_none->MZ,isSome_iff_exists->Na,map_eq_none_iff->Np,isSome_map->N4
open List.cons renaming inj->eC,injEq->Z5
open Ne renaming symm->fm
open PySem.SeqAt renaming EqAt->ft
open ForIn renaming forIn->gO
open PUnit renaming unit->jg
open PySem.W renaming topFrame->kx,instObj->l_,looks_pair->ny,piecesOf->oA,piece_app->qc,segRun_of->qd,segRunT->qn,look_both->r6,findIn->sA,WData->sM,behindTheImports->xr,handedIn->xS,hasDictIn->A6,plainGet->Bm,plainGet_of->F8,plainOver->Gw
open PySem.PyData renaming keyHash->lh
open LawfulBEq renaming eq_of_beq->lZ
open PySem.Builtin.SmallTypes renaming nextOf->mY,ownedTupleIsFree->tX,ownedTupleHandOut->Ac,calledThroughType->E5
open PySem.Around renaming under_plainId->oq
open Int.ofNat renaming inj->rX
open PySem.Builtin.List renaming listLengthHint->xh,listTooLong->xj,listExtendWith->E6,listFitsIndex->MV
open ForInStep renaming yield->xw
open PySem.IntMulOk renaming of_le->xA
open PySem.Txt renaming contains->xG,isspace->F9
open PyProof.Rows.SortSt renaming mk'->xJ
open Prod renaming snd->xR,fst->Bo
open PySem.Builtin.Tuple renaming tupleHashOf->Ah,tupleItemsOf->MW
open PySem.Builtin.Dict renaming showsAll->Ao,takeOut->Fl,keyAndDefault->MX,updateFrom->Nc
open PySem.Flow renaming next->A8
open PySem.Builtin.Slice renaming sliceAdjust->E9,sliceApplied->MY
open List.Pairwise renaming map->Fx,of_map->NB
open PySem.Builtin.Dict_items renaming ownedTupleIsFree->MR,pairFromOwner->MT
open PySem.Builtin.Frozenset renaming sizeOf->Nb
open PySem.Builtin.Str renaming occurrences->Ng
open PySem.Calls renaming Name_function_global->NF,callWith_builtin->Ol,evalArgs_plain->OE,call_len_list->OR
open PySem.Moved renaming eq_with->OM
section
open PySem PySem.W PyProof.Rows PySem.Calls
namespace Mine.hd
noncomputable def pg:Program:=PySem.Challenge.rw_pq0098_01.row.toRowW.prog
noncomputable def q(i:Nat):Stmt:=match pg.main.body[i]? with |some x=>x |none=> .Pass ⟨0,0,0,0⟩
noncomputable def m(i j:Nat):Stmt:=match q i with | .ClassDef _ _ _ b _ _ _ _ _ _ _=>(match b[j]? with |some x=>x |none=>q i) |x=>x
noncomputable def s(x:dK)(t:Nat):Value:= .str (Str.ofString x) t
noncomputable def t(l:ae Value):Obj:=⟨.type "tuple",none,.seq l.toArray 0,#[]⟩
noncomputable def f(c:Value)(l:ae Value):Obj:=⟨c,none,.fields l.toArray,#[]⟩
noncomputable def d(l:ae DictEntry)(n:Nat):Obj:=⟨.type "dict",none,.dict l.toArray n,#[]⟩
noncomputable def e(P:bg)(x:dK)(t:Nat)(v:Value):DictEntry:=⟨lh P (Str.ofString x),.str (Str.ofString x) t,v⟩
noncomputable def c(n:dK)(b r:ae Value)(ns:Nat)(y:dK)(z:ae Value)(l:ay (aB Value)):Obj:=⟨.type "type",none,.cls ⟨Str.ofString n,b,r,ns,Str.ofString y,true,[],z,false,none,false⟩,l⟩
noncomputable def sn:Nat->ae dK->ae Value |_,[]=>[] |t,x::l=>s x t::sn (t+1) l
noncomputable def fo(o:Value)(x:dK)(g:Nat)(cl:ae (Str×Nat))(md cd ct:Value):Stmt->Obj
 | .FunctionDef n a b _ _ _ s _ _ _=>⟨o,none,.func ⟨n,Str.ofString x,a,.stmts b,s,g,cl,.none,.none,.none,md,none,cd,ct,0⟩,#[]⟩
 |_=>t []
noncomputable def co(a t k:Nat)(x:dK)(v z:Value)(y:Nat):Stmt->Obj
 | .FunctionDef n g _ _ _ _ _ _ _ p=>f (.type "code") [.str n t,s x (t+1),s "/claim/cut.py" (t+2),.int p.line 0,.int g.args.length 0,.int 0 0,.int 0 0,.int 3 0,.ref a,.bool true,.int 181 0,.ref (a+1),.none,v,z,.ref y,.int k 0,.int p.line 0,s "/claim/cut.py" (k+1)]
 |_=>hd.t []
noncomputable def f5(a t:Nat)(st:Stmt)(x:dK)(md:Value)(r:ae Obj):ae Obj:=
 hd.t []::f .none []::fo .none x 0 [] .none .none .none st::co a t (t+3) x .none .none (a+2) st::fo (.type "function") x 3 [] md (.ref (a+3)) .none st::r
noncomputable def g7(a t:Nat)(st:Stmt)(x:dK)(md:Value)(cv vn:ae dK)(cl:ae (Str×Nat))(ct:Value)(r:ae Obj):ae Obj:=
 hd.t (sn (t+3) cv)::f .none []::hd.t (sn (t+3+cv.length) vn)::hd.t []::fo .none x 0 [] .none .none .none st::co a t (t+3+cv.length+vn.length) x (.ref (a+2)) (.ref (a+3)) (a+4) st::fo (.type "function") x 3 cl md (.ref (a+5)) ct st::r
noncomputable def f7(a t:Nat)(st:Stmt)(x:dK)(md:Value)(vn:ae dK)(r:ae Obj):ae Obj:=g7 a t st x md [] vn [] .none r
noncomputable def n0:Value:=s "__main__" 164
noncomputable def n1:Value:=s "alikeheap.errors" 194
noncomputable def n2:Value:=s "alikeheap.terms" 266
noncomputable def n3:Value:=s "alikeheap.extract" 430
noncomputable def n4:Value:=s "alikeheap.unions" 505
noncomputable def n5:Value:=s "alikeheap.heap" 607
noncomputable def n6:Value:=s "alikeheap.matching" 773
noncomputable def n7:Value:=s "alikeheap.rules" 827
noncomputable def n8:Value:=s "alikeheap.analyses" 1005
noncomputable def n9:Value:=s "alikeheap.theories" 1013
noncomputable def qS:Value:=s "law_pq0098_01" 1080
noncomputable def m0(P:bg):ae DictEntry:=[e P "__init__" 216 (.ref 37),e P "told" 223 (.ref 44)]
noncomputable def m1(P:bg):ae DictEntry:=[e P "__init__" 317 (.ref 115),e P "size" 324 (.ref 122),e P "take" 330 (.ref 127),e P "require" 338 (.ref 134),e P "put" 348 (.ref 141),e P "put_all" 354 (.ref 146),e P "cut" 362 (.ref 153),e P "op" 370 (.ref 160),e P "kids" 378 (.ref 167),e P "node" 386 (.ref 174),e P "term" 392 (.ref 179),e P "weight" 400 (.ref 186),e P "depth" 408 (.ref 193),e P "seek" 417 (.ref 200)]
noncomputable def m2(P:bg):ae DictEntry:=[e P "__init__" 460 (.ref 228),e P "rank_by" 466 (.ref 233),e P "has_better" 477 (.ref 240),e P "cost" 485 (.ref 247),e P "term" 493 (.ref 254)]
noncomputable def m3(P:bg):ae DictEntry:=[e P "__init__" 525 (.ref 275),e P "make" 532 (.ref 282),e P "size" 539 (.ref 289),e P "find" 547 (.ref 296),e P "merge" 558 (.ref 303),e P "members" 566 (.ref 310),e P "classes" 572 (.ref 315),e P "log" 579 (.ref 322),e P "back" 587 (.ref 329),e P "cut" 595 (.ref 336)]
noncomputable def m4(P:bg):ae DictEntry:=[e P "__init__" 627 (.ref 357),e P "size" 634 (.ref 364),e P "node" 640 (.ref 369),e P "add" 646 (.ref 374),e P "put" 652 (.ref 379),e P "look_at" 661 (.ref 386),e P "find" 669 (.ref 393),e P "are_like" 678 (.ref 400),e P "merge" 688 (.ref 407),e P "join" 701 (.ref 414),e P "settle" 708 (.ref 421),e P "is_settled" 715 (.ref 428),e P "classes" 722 (.ref 435),e P "members" 730 (.ref 442),e P "nodes_of" 736 (.ref 447),e P "many_nodes" 743 (.ref 454),e P "seek" 749 (.ref 459),e P "users" 757 (.ref 466)]
noncomputable def m5(P:bg):ae DictEntry:=[e P "__init__" 794 (.ref 487),e P "extended" 800 (.ref 492),e P "found_in" 811 (.ref 499),e P "found" 817 (.ref 504)]
noncomputable def m6(P:bg):ae DictEntry:=[e P "__init__" 850 (.ref 524),e P "turned" 857 (.ref 531)]
noncomputable def m7(P:bg):ae DictEntry:=[e P "__init__" 889 (.ref 552),e P "put" 895 (.ref 557),e P "class_of" 901 (.ref 562),e P "holds" 914 (.ref 569)]
noncomputable def m8(P:bg):ae DictEntry:=[e P "__init__" 941 (.ref 588),e P "is_full" 948 (.ref 595),e P "matches" 957 (.ref 602),e P "apply" 963 (.ref 607),e P "apply_all" 975 (.ref 614),e P "one_round" 981 (.ref 619),e P "run" 987 (.ref 624)]
noncomputable def m9(P:bg):ae DictEntry:=[e P "__init__" 1056 (.ref 671),e P "rules" 1064 (.ref 678),e P "value" 1070 (.ref 683)]
noncomputable def b0(P:bg)(r:ae Obj):ae Obj:=f (.type "code") [s "<module>" 182,s "<module>" 183,s "/claim/cut.py" 184,.int 1 0,.int 0 0,.int 0 0,.int 0 0,.int 0 0,.ref 11,.bool false,.int 181 0,.ref 12,.none,.none,.none,.none,.int 185 0,.int 1 0,s "/claim/cut.py" 186]::Obj.mk (.type "frame") none .plain #[some (.ref 13),some (.ref 3),some (.ref 3),none,some n0,none,some (.ref 0)]::f7 15 187 (q 0) "_wall" n0 ["k"] (t [.type "Exception"]::f (.type "builtin_function_or_method") [.builtin "type.__prepare__",.type "type"]::d ([e P "__module__" 203 n1,e P "__qualname__" 205 (s "HeapError" 204),e P "__firstlineno__" 207 (.int 5 206)]++m0 P++[e P "__static_attributes__" 225 (.ref 45),e P "__classcell__" 226 (.ref 25)]) 7::Obj.mk (.type "cell") none (.cell (some (.ref 47))) #[]::t []::f .none [.int 7 0,.int 4 0,.ref 36,.int 11 0,.int 4 0,.ref 43]::f (.type "code") [s "HeapError" 198,s "HeapError" 199,s "/claim/cut.py" 200,.int 5 0,.int 0 0,.int 0 0,.int 0 0,.int 0 0,.ref 26,.bool false,.int 181 0,.ref 27,.none,.none,.none,.none,.int 201 0,.int 5 0,s "/claim/cut.py" 202]::Obj.mk (.type "frame") none .plain #[some (.ref 28),some (.ref 3),some (.ref 24),none,some n1,none,some (.ref 0)]::t [.ref 25]::g7 31 208 (m 2 0) "HeapError.__init__" n1 ["__class__"] ["self","what"] [("__class__",25)] (.ref 30) (f7 38 217 (m 2 1) "HeapError.told" n1 ["self"] (t [s "what" 224]::d ([e P "__module__" 203 n1,e P "__firstlineno__" 207 (.int 5 206)]++m0 P++[e P "__static_attributes__" 225 (.ref 45),e P "__weakref__" 228 (.ref 48),e P "__doc__" 229 .none]) 4::c "HeapError" [.type "Exception"] [.ref 47,.type "Exception",.type "BaseException",.type "object"] 46 "HeapError" [.ref 60,.ref 72] #[some (.ref 22),none,some (s "HeapError" 196),some (s "HeapError" 204),some (.builtin "Exception.__new__"),some (.bool true)]::f (.type "getset_descriptor") [s "__weakref__" 227,.ref 47,.builtin "ExceptionGroup.__weakref__",.none]::f (.type "super") [.ref 47,.ref 47,.ref 47]::f (.type "builtin_function_or_method") [.builtin "object.__init_subclass__",.ref 47]::t [.ref 47]::f (.type "builtin_function_or_method") [.builtin "type.__prepare__",.type "type"]::d [e P "__module__" 241 n1,e P "__qualname__" 243 (s "TermFault" 242),e P "__firstlineno__" 245 (.int 13 244),e P "__static_attributes__" 246 (.ref 58)] 4::t []::f .none []::f (.type "code") [s "TermFault" 236,s "TermFault" 237,s "/claim/cut.py" 238,.int 13 0,.int 0 0,.int 0 0,.int 0 0,.int 0 0,.ref 54,.bool false,.int 181 0,.ref 55,.none,.none,.none,.none,.int 239 0,.int 13 0,s "/claim/cut.py" 240]::r)))
noncomputable def b1(P:bg)(r:ae Obj):ae Obj:=Obj.mk (.type "frame") none .plain #[some (.ref 56),some (.ref 3),some (.ref 53),none,some n1,none,some (.ref 0)]::t []::d [e P "__module__" 241 n1,e P "__firstlineno__" 245 (.int 13 244),e P "__static_attributes__" 246 (.ref 58),e P "__doc__" 247 .none] 2::c "TermFault" [.ref 47] [.ref 60,.ref 47,.type "Exception",.type "BaseException",.type "object"] 59 "TermFault" [] #[some (.ref 51),none,some (s "TermFault" 234),some (s "TermFault" 242),some (.builtin "Exception.__new__"),some (.bool true)]::f (.type "super") [.ref 60,.ref 60,.ref 60]::f (.type "builtin_function_or_method") [.builtin "object.__init_subclass__",.ref 60]::t [.ref 47]::f (.type "builtin_function_or_method") [.builtin "type.__prepare__",.type "type"]::d [e P "__module__" 257 n1,e P "__qualname__" 259 (s "RuleFault" 258),e P "__firstlineno__" 261 (.int 15 260),e P "__static_attributes__" 262 (.ref 70)] 4::t []::f .none []::f (.type "code") [s "RuleFault" 252,s "RuleFault" 253,s "/claim/cut.py" 254,.int 15 0,.int 0 0,.int 0 0,.int 0 0,.int 0 0,.ref 66,.bool false,.int 181 0,.ref 67,.none,.none,.none,.none,.int 255 0,.int 15 0,s "/claim/cut.py" 256]::Obj.mk (.type "frame") none .plain #[some (.ref 68),some (.ref 3),some (.ref 65),none,some n1,none,some (.ref 0)]::t []::d [e P "__module__" 257 n1,e P "__firstlineno__" 261 (.int 15 260),e P "__static_attributes__" 262 (.ref 70),e P "__doc__" 263 .none] 2::c "RuleFault" [.ref 47] [.ref 72,.ref 47,.type "Exception",.type "BaseException",.type "object"] 71 "RuleFault" [] #[some (.ref 63),none,some (s "RuleFault" 250),some (s "RuleFault" 258),some (.builtin "Exception.__new__"),some (.bool true)]::f (.type "super") [.ref 72,.ref 72,.ref 72]::f (.type "builtin_function_or_method") [.builtin "object.__init_subclass__",.ref 72]::f5 75 268 (q 6) "is_op" n2 (f7 80 274 (q 7) "is_variable" n2 ["t"] (f5 87 281 (q 8) "variables" n2 (f5 92 287 (q 9) "parts" n2 (f5 97 293 (q 10) "key_of" n2 (t []::f (.type "builtin_function_or_method") [.builtin "type.__prepare__",.type "type"]::d ([e P "__module__" 306 n2,e P "__qualname__" 308 (s "Bank" 307),e P "__firstlineno__" 310 (.int 32 309)]++m1 P++[e P "__static_attributes__" 422 (.ref 201)]) 18::t []::f .none [.int 34 0,.int 4 0,.ref 114,.int 40 0,.int 4 0,.ref 121,.int 43 0,.int 4 0,.ref 126,.int 57 0,.int 4 0,.ref 133,.int 61 0,.int 4 0,.ref 140,.int 66 0,.int 4 0,.ref 145,.int 69 0,.int 4 0,.ref 152,.int 72 0,.int 4 0,.ref 159,.int 75 0,.int 4 0,.ref 166,.int 78 0,.int 4 0,.ref 173,.int 81 0,.int 4 0,.ref 178,.int 93 0,.int 4 0,.ref 185,.int 96 0,.int 4 0,.ref 192,.int 99 0,.int 4 0,.ref 199]::r)))))
noncomputable def b2(P:bg)(r:ae Obj):ae Obj:=f (.type "code") [s "Bank" 301,s "Bank" 302,s "/claim/cut.py" 303,.int 32 0,.int 0 0,.int 0 0,.int 0 0,.int 0 0,.ref 105,.bool false,.int 181 0,.ref 106,.none,.none,.none,.none,.int 304 0,.int 32 0,s "/claim/cut.py" 305]::Obj.mk (.type "frame") none .plain #[some (.ref 107),some (.ref 3),some (.ref 104),none,some n2,none,some (.ref 0)]::f7 109 311 (m 11 0) "Bank.__init__" n2 ["self"] (f7 116 318 (m 11 1) "Bank.size" n2 ["self"] (f5 123 325 (m 11 2) "Bank.take" n2 (f7 128 331 (m 11 3) "Bank.require" n2 ["self","op"] (f7 135 339 (m 11 4) "Bank.put" n2 ["self","t","path","part"] (f5 142 349 (m 11 5) "Bank.put_all" n2 (f7 147 355 (m 11 6) "Bank.cut" n2 ["self","many"] (f7 154 363 (m 11 7) "Bank.op" n2 ["self","n"] (f7 161 371 (m 11 8) "Bank.kids" n2 ["self","n"] (f7 168 379 (m 11 9) "Bank.node" n2 ["self","n"] (f5 175 387 (m 11 10) "Bank.term" n2 (f7 180 393 (m 11 11) "Bank.weight" n2 ["self","n"] (f7 187 401 (m 11 12) "Bank.depth" n2 ["self","n"] (f7 194 409 (m 11 13) "Bank.seek" n2 ["self","op","kids"] (t [s "depths" 418,s "nodes" 419,s "numbers" 420,s "weights" 421]::d ([e P "__module__" 306 n2,e P "__firstlineno__" 310 (.int 32 309)]++m1 P++[e P "__static_attributes__" 422 (.ref 201),e P "__dict__" 424 (.ref 204),e P "__weakref__" 426 (.ref 205),e P "__doc__" 427 .none]) 4::c "Bank" [.type "object"] [.ref 203,.type "object"] 202 "Bank" [] #[none,none,some (s "Bank" 299),some (s "Bank" 307),some (.builtin "object.__new__"),some (.bool true)]::f (.type "getset_descriptor") [s "__dict__" 423,.ref 203,.builtin "function.__dict__",.builtin "function.__dict__#set"]::f (.type "getset_descriptor") [s "__weakref__" 425,.ref 203,.builtin "ExceptionGroup.__weakref__",.none]::f (.type "super") [.ref 203,.ref 203,.ref 203]::f (.type "builtin_function_or_method") [.builtin "object.__init_subclass__",.ref 203]::f7 208 432 (q 13) "rank_of" n3 ["cost","term"] (t []::f (.type "builtin_function_or_method") [.builtin "type.__prepare__",.type "type"]::d ([e P "__module__" 447 n3,e P "__qualname__" 449 (s "Cheapest" 448),e P "__firstlineno__" 451 (.int 104 450)]++m2 P++[e P "__static_attributes__" 497 (.ref 255)]) 9::t []::f .none [.int 106 0,.int 4 0,.ref 227,.int 113 0,.int 4 0,.ref 232,.int 120 0,.int 4 0,.ref 239,.int 130 0,.int 4 0,.ref 246,.int 133 0,.int 4 0,.ref 253]::f (.type "code") [s "Cheapest" 442,s "Cheapest" 443,s "/claim/cut.py" 444,.int 104 0,.int 0 0,.int 0 0,.int 0 0,.int 0 0,.ref 218,.bool false,.int 181 0,.ref 219,.none,.none,.none,.none,.int 445 0,.int 104 0,s "/claim/cut.py" 446]::r)))))))))))))))
noncomputable def b3(P:bg)(r:ae Obj):ae Obj:=Obj.mk (.type "frame") none .plain #[some (.ref 220),some (.ref 3),some (.ref 217),none,some n3,none,some (.ref 0)]::f7 222 452 (m 14 0) "Cheapest.__init__" n3 ["self","heap","costs"] (f5 229 461 (m 14 1) "Cheapest.rank_by" n3 (f7 234 467 (m 14 2) "Cheapest.has_better" n3 ["self","is_better","c","node","rank"] (f7 241 478 (m 14 3) "Cheapest.cost" n3 ["self","c"] (f7 248 486 (m 14 4) "Cheapest.term" n3 ["self","c"] (t [s "costs" 494,s "heap" 495,s "ranks" 496]::d ([e P "__module__" 447 n3,e P "__firstlineno__" 451 (.int 104 450)]++m2 P++[e P "__static_attributes__" 497 (.ref 255),e P "__dict__" 499 (.ref 258),e P "__weakref__" 501 (.ref 259),e P "__doc__" 502 .none]) 4::c "Cheapest" [.type "object"] [.ref 257,.type "object"] 256 "Cheapest" [] #[none,none,some (s "Cheapest" 440),some (s "Cheapest" 448),some (.builtin "object.__new__"),some (.bool true)]::f (.type "getset_descriptor") [s "__dict__" 498,.ref 257,.builtin "function.__dict__",.builtin "function.__dict__#set"]::f (.type "getset_descriptor") [s "__weakref__" 500,.ref 257,.builtin "ExceptionGroup.__weakref__",.none]::f (.type "super") [.ref 257,.ref 257,.ref 257]::f (.type "builtin_function_or_method") [.builtin "object.__init_subclass__",.ref 257]::t []::f (.type "builtin_function_or_method") [.builtin "type.__prepare__",.type "type"]::d ([e P "__module__" 514 n4,e P "__qualname__" 516 (s "Unions" 515),e P "__firstlineno__" 518 (.int 136 517)]++m3 P++[e P "__static_attributes__" 599 (.ref 337)]) 14::t []::f .none [.int 138 0,.int 4 0,.ref 274,.int 143 0,.int 4 0,.ref 281,.int 148 0,.int 4 0,.ref 288,.int 151 0,.int 4 0,.ref 295,.int 156 0,.int 4 0,.ref 302,.int 165 0,.int 4 0,.ref 309,.int 168 0,.int 4 0,.ref 314,.int 171 0,.int 4 0,.ref 321,.int 174 0,.int 4 0,.ref 328,.int 177 0,.int 4 0,.ref 335]::f (.type "code") [s "Unions" 509,s "Unions" 510,s "/claim/cut.py" 511,.int 136 0,.int 0 0,.int 0 0,.int 0 0,.int 0 0,.ref 265,.bool false,.int 181 0,.ref 266,.none,.none,.none,.none,.int 512 0,.int 136 0,s "/claim/cut.py" 513]::Obj.mk (.type "frame") none .plain #[some (.ref 267),some (.ref 3),some (.ref 264),none,some n4,none,some (.ref 0)]::f7 269 519 (m 16 0) "Unions.__init__" n4 ["self"] (f7 276 526 (m 16 1) "Unions.make" n4 ["self"] (f7 283 533 (m 16 2) "Unions.size" n4 ["self"] (f7 290 540 (m 16 3) "Unions.find" n4 ["self","a"] (r)))))))))
noncomputable def b4(P:bg)(r:ae Obj):ae Obj:=f7 297 548 (m 16 4) "Unions.merge" n4 ["self","a","b","kept","gone"] (f7 304 559 (m 16 5) "Unions.members" n4 ["self","a"] (f5 311 567 (m 16 6) "Unions.classes" n4 (f7 316 573 (m 16 7) "Unions.log" n4 ["self"] (f7 323 580 (m 16 8) "Unions.back" n4 ["self","many"] (f7 330 588 (m 16 9) "Unions.cut" n4 ["self","many"] (t [s "above" 596,s "lots" 597,s "merged" 598]::d ([e P "__module__" 514 n4,e P "__firstlineno__" 518 (.int 136 517)]++m3 P++[e P "__static_attributes__" 599 (.ref 337),e P "__dict__" 601 (.ref 340),e P "__weakref__" 603 (.ref 341),e P "__doc__" 604 .none]) 4::c "Unions" [.type "object"] [.ref 339,.type "object"] 338 "Unions" [] #[none,none,some (s "Unions" 507),some (s "Unions" 515),some (.builtin "object.__new__"),some (.bool true)]::f (.type "getset_descriptor") [s "__dict__" 600,.ref 339,.builtin "function.__dict__",.builtin "function.__dict__#set"]::f (.type "getset_descriptor") [s "__weakref__" 602,.ref 339,.builtin "ExceptionGroup.__weakref__",.none]::f (.type "super") [.ref 339,.ref 339,.ref 339]::f (.type "builtin_function_or_method") [.builtin "object.__init_subclass__",.ref 339]::t []::f (.type "builtin_function_or_method") [.builtin "type.__prepare__",.type "type"]::d ([e P "__module__" 616 n5,e P "__qualname__" 618 (s "Heap" 617),e P "__firstlineno__" 620 (.int 180 619)]++m4 P++[e P "__static_attributes__" 765 (.ref 467)]) 22::t []::f .none [.int 182 0,.int 4 0,.ref 356,.int 191 0,.int 4 0,.ref 363,.int 194 0,.int 4 0,.ref 368,.int 197 0,.int 4 0,.ref 373,.int 208 0,.int 4 0,.ref 378,.int 211 0,.int 4 0,.ref 385,.int 216 0,.int 4 0,.ref 392,.int 219 0,.int 4 0,.ref 399,.int 222 0,.int 4 0,.ref 406,.int 225 0,.int 4 0,.ref 413,.int 236 0,.int 4 0,.ref 420,.int 240 0,.int 4 0,.ref 427,.int 243 0,.int 4 0,.ref 434,.int 246 0,.int 4 0,.ref 441,.int 249 0,.int 4 0,.ref 446,.int 252 0,.int 4 0,.ref 453,.int 255 0,.int 4 0,.ref 458,.int 259 0,.int 4 0,.ref 465]::f (.type "code") [s "Heap" 611,s "Heap" 612,s "/claim/cut.py" 613,.int 180 0,.int 0 0,.int 0 0,.int 0 0,.int 0 0,.ref 347,.bool false,.int 181 0,.ref 348,.none,.none,.none,.none,.int 614 0,.int 180 0,s "/claim/cut.py" 615]::Obj.mk (.type "frame") none .plain #[some (.ref 349),some (.ref 3),some (.ref 346),none,some n5,none,some (.ref 0)]::f7 351 621 (m 18 0) "Heap.__init__" n5 ["self"] (f7 358 628 (m 18 1) "Heap.size" n5 ["self"] (r))))))))
noncomputable def b5(P:bg)(r:ae Obj):ae Obj:=f5 365 635 (m 18 2) "Heap.node" n5 (f5 370 641 (m 18 3) "Heap.add" n5 (f5 375 647 (m 18 4) "Heap.put" n5 (f7 380 653 (m 18 5) "Heap.look_at" n5 ["self","n","other"] (f7 387 662 (m 18 6) "Heap.find" n5 ["self","n"] (f7 394 670 (m 18 7) "Heap.are_like" n5 ["self","a","b"] (f7 401 679 (m 18 8) "Heap.merge" n5 ["self","a","b","reason"] (f7 408 689 (m 18 9) "Heap.join" n5 ["self","a","b","reason","merged","kept","gone"] (f7 415 702 (m 18 10) "Heap.settle" n5 ["self"] (f7 422 709 (m 18 11) "Heap.is_settled" n5 ["self"] (f7 429 716 (m 18 12) "Heap.classes" n5 ["self"] (f7 436 723 (m 18 13) "Heap.members" n5 ["self","c"] (f5 443 731 (m 18 14) "Heap.nodes_of" n5 (f7 448 737 (m 18 15) "Heap.many_nodes" n5 ["self"] (f5 455 744 (m 18 16) "Heap.seek" n5 (f7 460 750 (m 18 17) "Heap.users" n5 ["self","c"] (t [s "above" 758,s "bank" 759,s "edges" 760,s "forest" 761,s "known" 762,s "unions" 763,s "waiting" 764]::d ([e P "__module__" 616 n5,e P "__firstlineno__" 620 (.int 180 619)]++m4 P++[e P "__static_attributes__" 765 (.ref 467),e P "__dict__" 767 (.ref 470),e P "__weakref__" 769 (.ref 471),e P "__doc__" 770 .none]) 4::c "Heap" [.type "object"] [.ref 469,.type "object"] 468 "Heap" [] #[none,none,some (s "Heap" 609),some (s "Heap" 617),some (.builtin "object.__new__"),some (.bool true)]::f (.type "getset_descriptor") [s "__dict__" 766,.ref 469,.builtin "function.__dict__",.builtin "function.__dict__#set"]::f (.type "getset_descriptor") [s "__weakref__" 768,.ref 469,.builtin "ExceptionGroup.__weakref__",.none]::f (.type "super") [.ref 469,.ref 469,.ref 469]::f (.type "builtin_function_or_method") [.builtin "object.__init_subclass__",.ref 469]::t []::f (.type "builtin_function_or_method") [.builtin "type.__prepare__",.type "type"]::d ([e P "__module__" 782 n6,e P "__qualname__" 784 (s "Walker" 783),e P "__firstlineno__" 786 (.int 262 785)]++m5 P++[e P "__static_attributes__" 819 (.ref 505)]) 8::t []::f .none [.int 264 0,.int 4 0,.ref 486,.int 267 0,.int 4 0,.ref 491,.int 282 0,.int 4 0,.ref 498,.int 288 0,.int 4 0,.ref 503]::f (.type "code") [s "Walker" 777,s "Walker" 778,s "/claim/cut.py" 779,.int 262 0,.int 0 0,.int 0 0,.int 0 0,.int 0 0,.ref 477,.bool false,.int 181 0,.ref 478,.none,.none,.none,.none,.int 780 0,.int 262 0,s "/claim/cut.py" 781]::Obj.mk (.type "frame") none .plain #[some (.ref 479),some (.ref 3),some (.ref 476),none,some n6,none,some (.ref 0)]::r))))))))))))))))
noncomputable def b6(P:bg)(r:ae Obj):ae Obj:=f7 481 787 (m 20 0) "Walker.__init__" n6 ["self","heap"] (f5 488 795 (m 20 1) "Walker.extended" n6 (f7 493 801 (m 20 2) "Walker.found_in" n6 ["self","c","pattern","substs","table"] (f5 500 812 (m 20 3) "Walker.found" n6 (t [s "heap" 818]::d ([e P "__module__" 782 n6,e P "__firstlineno__" 786 (.int 262 785)]++m5 P++[e P "__static_attributes__" 819 (.ref 505),e P "__dict__" 821 (.ref 508),e P "__weakref__" 823 (.ref 509),e P "__doc__" 824 .none]) 4::c "Walker" [.type "object"] [.ref 507,.type "object"] 506 "Walker" [] #[none,none,some (s "Walker" 775),some (s "Walker" 783),some (.builtin "object.__new__"),some (.bool true)]::f (.type "getset_descriptor") [s "__dict__" 820,.ref 507,.builtin "function.__dict__",.builtin "function.__dict__#set"]::f (.type "getset_descriptor") [s "__weakref__" 822,.ref 507,.builtin "ExceptionGroup.__weakref__",.none]::f (.type "super") [.ref 507,.ref 507,.ref 507]::f (.type "builtin_function_or_method") [.builtin "object.__init_subclass__",.ref 507]::t [s "together" 829,s "turns" 830,s "rests" 831]::t []::f (.type "builtin_function_or_method") [.builtin "type.__prepare__",.type "type"]::d ([e P "__module__" 840 n7,e P "__qualname__" 842 (s "Rule" 841),e P "__firstlineno__" 844 (.int 292 843)]++m6 P++[e P "__static_attributes__" 862 (.ref 532)]) 6::t []::f .none [.int 294 0,.int 4 0,.ref 523,.int 310 0,.int 4 0,.ref 530]::f (.type "code") [s "Rule" 835,s "Rule" 836,s "/claim/cut.py" 837,.int 292 0,.int 0 0,.int 0 0,.int 0 0,.int 0 0,.ref 516,.bool false,.int 181 0,.ref 517,.none,.none,.none,.none,.int 838 0,.int 292 0,s "/claim/cut.py" 839]::Obj.mk (.type "frame") none .plain #[some (.ref 518),some (.ref 3),some (.ref 515),none,some n7,none,some (.ref 0)]::f5 520 845 (m 23 0) "Rule.__init__" n7 (f7 525 851 (m 23 1) "Rule.turned" n7 ["self"] (t [s "left" 858,s "name" 859,s "needs" 860,s "right" 861]::d ([e P "__module__" 840 n7,e P "__firstlineno__" 844 (.int 292 843)]++m6 P++[e P "__static_attributes__" 862 (.ref 532),e P "__dict__" 864 (.ref 535),e P "__weakref__" 866 (.ref 536),e P "__doc__" 867 .none]) 4::c "Rule" [.type "object"] [.ref 534,.type "object"] 533 "Rule" [] #[none,none,some (s "Rule" 833),some (s "Rule" 841),some (.builtin "object.__new__"),some (.bool true)]::f (.type "getset_descriptor") [s "__dict__" 863,.ref 534,.builtin "function.__dict__",.builtin "function.__dict__#set"]::r))))))
noncomputable def b7(P:bg)(r:ae Obj):ae Obj:=f (.type "getset_descriptor") [s "__weakref__" 865,.ref 534,.builtin "ExceptionGroup.__weakref__",.none]::f (.type "super") [.ref 534,.ref 534,.ref 534]::f (.type "builtin_function_or_method") [.builtin "object.__init_subclass__",.ref 534]::t []::f (.type "builtin_function_or_method") [.builtin "type.__prepare__",.type "type"]::d ([e P "__module__" 877 n7,e P "__qualname__" 879 (s "Placer" 878),e P "__firstlineno__" 881 (.int 312 880)]++m7 P++[e P "__static_attributes__" 916 (.ref 570)]) 8::t []::f .none [.int 314 0,.int 4 0,.ref 551,.int 317 0,.int 4 0,.ref 556,.int 322 0,.int 4 0,.ref 561,.int 328 0,.int 4 0,.ref 568]::f (.type "code") [s "Placer" 872,s "Placer" 873,s "/claim/cut.py" 874,.int 312 0,.int 0 0,.int 0 0,.int 0 0,.int 0 0,.ref 542,.bool false,.int 181 0,.ref 543,.none,.none,.none,.none,.int 875 0,.int 312 0,s "/claim/cut.py" 876]::Obj.mk (.type "frame") none .plain #[some (.ref 544),some (.ref 3),some (.ref 541),none,some n7,none,some (.ref 0)]::f7 546 882 (m 24 0) "Placer.__init__" n7 ["self","heap"] (f5 553 890 (m 24 1) "Placer.put" n7 (f5 558 896 (m 24 2) "Placer.class_of" n7 (f7 563 902 (m 24 3) "Placer.holds" n7 ["self","need","table","kind","one","other","here"] (t [s "heap" 915]::d ([e P "__module__" 877 n7,e P "__firstlineno__" 881 (.int 312 880)]++m7 P++[e P "__static_attributes__" 916 (.ref 570),e P "__dict__" 918 (.ref 573),e P "__weakref__" 920 (.ref 574),e P "__doc__" 921 .none]) 4::c "Placer" [.type "object"] [.ref 572,.type "object"] 571 "Placer" [] #[none,none,some (s "Placer" 870),some (s "Placer" 878),some (.builtin "object.__new__"),some (.bool true)]::f (.type "getset_descriptor") [s "__dict__" 917,.ref 572,.builtin "function.__dict__",.builtin "function.__dict__#set"]::f (.type "getset_descriptor") [s "__weakref__" 919,.ref 572,.builtin "ExceptionGroup.__weakref__",.none]::f (.type "super") [.ref 572,.ref 572,.ref 572]::f (.type "builtin_function_or_method") [.builtin "object.__init_subclass__",.ref 572]::t []::f (.type "builtin_function_or_method") [.builtin "type.__prepare__",.type "type"]::d ([e P "__module__" 931 n7,e P "__qualname__" 933 (s "Runner" 932),e P "__firstlineno__" 935 (.int 332 934)]++m8 P++[e P "__static_attributes__" 997 (.ref 625)]) 11::t []::f .none [.int 334 0,.int 4 0,.ref 587,.int 350 0,.int 4 0,.ref 594,.int 353 0,.int 4 0,.ref 601,.int 364 0,.int 4 0,.ref 606,.int 373 0,.int 4 0,.ref 613,.int 381 0,.int 4 0,.ref 618,.int 395 0,.int 4 0,.ref 623]::r))))
noncomputable def b8(P:bg)(r:ae Obj):ae Obj:=f (.type "code") [s "Runner" 926,s "Runner" 927,s "/claim/cut.py" 928,.int 332 0,.int 0 0,.int 0 0,.int 0 0,.int 0 0,.ref 580,.bool false,.int 181 0,.ref 581,.none,.none,.none,.none,.int 929 0,.int 332 0,s "/claim/cut.py" 930]::Obj.mk (.type "frame") none .plain #[some (.ref 582),some (.ref 3),some (.ref 579),none,some n7,none,some (.ref 0)]::f5 584 936 (m 25 0) "Runner.__init__" n7 (f7 589 942 (m 25 1) "Runner.is_full" n7 ["self"] (f7 596 949 (m 25 2) "Runner.matches" n7 ["self","k","found"] (f5 603 958 (m 25 3) "Runner.apply" n7 (f7 608 964 (m 25 4) "Runner.apply_all" n7 ["self","k","found","joined","c","subst"] (f5 615 976 (m 25 5) "Runner.one_round" n7 (f5 620 982 (m 25 6) "Runner.run" n7 (t [s "heap" 988,s "history" 989,s "options" 990,s "placer" 991,s "rests" 992,s "rounds" 993,s "rules" 994,s "wakes" 995,s "walker" 996]::d ([e P "__module__" 931 n7,e P "__firstlineno__" 935 (.int 332 934)]++m8 P++[e P "__static_attributes__" 997 (.ref 625),e P "__dict__" 999 (.ref 628),e P "__weakref__" 1001 (.ref 629),e P "__doc__" 1002 .none]) 4::c "Runner" [.type "object"] [.ref 627,.type "object"] 626 "Runner" [] #[none,none,some (s "Runner" 924),some (s "Runner" 932),some (.builtin "object.__new__"),some (.bool true)]::f (.type "getset_descriptor") [s "__dict__" 998,.ref 627,.builtin "function.__dict__",.builtin "function.__dict__#set"]::f (.type "getset_descriptor") [s "__weakref__" 1000,.ref 627,.builtin "ExceptionGroup.__weakref__",.none]::f (.type "super") [.ref 627,.ref 627,.ref 627]::f (.type "builtin_function_or_method") [.builtin "object.__init_subclass__",.ref 627]::f5 632 1007 (q 27) "whole_of" n8 (t [s "?a" 1015]::t [s "?b" 1016]::t [s "?c" 1017]::t [.ref 637,.ref 638,.ref 639]::f (.type "tuple_iterator") [.none,.int 3 0]::t []::f (.type "StopIteration") [.ref 642,.none,.none,.none,.bool false,.none]::f7 644 1021 (q 30) "named_value" n9 ["term","env"] (f7 651 1029 (q 31) "laws_of" n9 ["op","unit"] (t []::f (.type "builtin_function_or_method") [.builtin "type.__prepare__",.type "type"]::d ([e P "__module__" 1044 n9,e P "__qualname__" 1046 (s "Ring" 1045),e P "__firstlineno__" 1048 (.int 417 1047)]++m9 P++[e P "__static_attributes__" 1072 (.ref 684)]) 7::t []::f .none [.int 419 0,.int 4 0,.ref 670,.int 422 0,.int 4 0,.ref 677,.int 426 0,.int 4 0,.ref 682]::f (.type "code") [s "Ring" 1039,s "Ring" 1040,s "/claim/cut.py" 1041,.int 417 0,.int 0 0,.int 0 0,.int 0 0,.int 0 0,.ref 661,.bool false,.int 181 0,.ref 662,.none,.none,.none,.none,.int 1042 0,.int 417 0,s "/claim/cut.py" 1043]::r))))))))))
noncomputable def b9(P:bg)(r:ae Obj):ae Obj:=Obj.mk (.type "frame") none .plain #[some (.ref 663),some (.ref 3),some (.ref 660),none,some n9,none,some (.ref 0)]::f7 665 1049 (m 32 0) "Ring.__init__" n9 ["self","n"] (f7 672 1057 (m 32 1) "Ring.rules" n9 ["self","zero"] (f5 679 1065 (m 32 2) "Ring.value" n9 (t [s "n" 1071]::d ([e P "__module__" 1044 n9,e P "__firstlineno__" 1048 (.int 417 1047)]++m9 P++[e P "__static_attributes__" 1072 (.ref 684),e P "__dict__" 1074 (.ref 687),e P "__weakref__" 1076 (.ref 688),e P "__doc__" 1077 .none]) 4::c "Ring" [.type "object"] [.ref 686,.type "object"] 685 "Ring" [] #[none,none,some (s "Ring" 1037),some (s "Ring" 1045),some (.builtin "object.__new__"),some (.bool true)]::f (.type "getset_descriptor") [s "__dict__" 1073,.ref 686,.builtin "function.__dict__",.builtin "function.__dict__#set"]::f (.type "getset_descriptor") [s "__weakref__" 1075,.ref 686,.builtin "ExceptionGroup.__weakref__",.none]::f (.type "super") [.ref 686,.ref 686,.ref 686]::f (.type "builtin_function_or_method") [.builtin "object.__init_subclass__",.ref 686]::f7 691 1082 (q 34) "_law_draw" qS ["feed","wide","turn"] (f7 698 1091 (q 35) "_law_term" qS ["feed","many","high","way"] (f5 705 1101 (q 36) "_law_values" qS (f5 710 1107 (q 37) "_law_paid" qS (f5 715 1113 (q 38) "law" qS (r))))))))
noncomputable def g3(P:bg):ae DictEntry:=[e P "__doc__" 166 .none,e P "__package__" 167 .none,e P "__loader__" 168 (.builtin "__main__.__loader__#opaque"),e P "__spec__" 169 .none,e P "__annotations__" 170 (.ref 6),e P "__builtins__" 171 (.ref 4),e P "__file__" 173 (s "/claim/cut.py" 172),e P "__cached__" 174 .none,e P "_wall" 193 (.ref 21),e P "HeapError" 233 (.ref 47),e P "TermFault" 249 (.ref 60),e P "RuleFault" 265 (.ref 72),e P "is_op" 273 (.ref 79),e P "is_variable" 280 (.ref 86),e P "variables" 286 (.ref 91),e P "parts" 292 (.ref 96),e P "key_of" 298 (.ref 101),e P "Bank" 429 (.ref 203),e P "rank_of" 439 (.ref 214),e P "Cheapest" 504 (.ref 257),e P "Unions" 606 (.ref 339),e P "Heap" 772 (.ref 469),e P "Walker" 826 (.ref 507),e P "ORDERS" 832 (.ref 512),e P "Rule" 869 (.ref 534),e P "Placer" 923 (.ref 572),e P "Runner" 1004 (.ref 627),e P "whole_of" 1012 (.ref 636),e P "A" 1018 (.ref 637),e P "B" 1019 (.ref 638),e P "C" 1020 (.ref 639),e P "named_value" 1028 (.ref 650),e P "laws_of" 1036 (.ref 657),e P "Ring" 1079 (.ref 686),e P "_law_draw" 1090 (.ref 697),e P "_law_term" 1100 (.ref 704),e P "_law_values" 1106 (.ref 709),e P "_law_paid" 1112 (.ref 714),e P "law" 1118 (.ref 719)]
noncomputable def XH:ae Value:=[.int 1 0,.int 0 0,.ref 20,.int 5 0,.int 0 0,.ref 28,.int 13 0,.int 0 0,.ref 56,.int 15 0,.int 0 0,.ref 68,.int 18 0,.int 0 0,.ref 78,.int 20 0,.int 0 0,.ref 85,.int 22 0,.int 0 0,.ref 90,.int 24 0,.int 0 0,.ref 95,.int 29 0,.int 0 0,.ref 100,.int 32 0,.int 0 0,.ref 107,.int 102 0,.int 0 0,.ref 213,.int 104 0,.int 0 0,.ref 220,.int 136 0,.int 0 0,.ref 267,.int 180 0,.int 0 0,.ref 349,.int 262 0,.int 0 0,.ref 479,.int 292 0,.int 0 0,.ref 518,.int 312 0,.int 0 0,.ref 544,.int 332 0,.int 0 0,.ref 582,.int 404 0,.int 0 0,.ref 635,.int 411 0,.int 0 0,.ref 649,.int 415 0,.int 0 0,.ref 656,.int 417 0,.int 0 0,.ref 663,.int 437 0,.int 0 0,.ref 696,.int 443 0,.int 0 0,.ref 703,.int 450 0,.int 0 0,.ref 708,.int 457 0,.int 0 0,.ref 713,.int 459 0,.int 0 0,.ref 718]
noncomputable def x2(P:bg):Obj:=⟨.none,none,.dict #[e P "type.__subclasses__.Exception.0" 230 (.int 47 0),e P "type.__subclasses__.Exception.n" 231 (.int 1 0)] 2,#[]⟩
noncomputable def x3(P:bg)(n:Value)(k:Nat):Obj:=d (e P "__name__" 165 n::(g3 P).take k) (k+1)
noncomputable def mM(k:Nat):Obj:=f .none (XH.take k)
noncomputable def ol(P:bg)(x y z:Obj):ae Obj:=boot_o_0 P::boot_o_1 P::x::y::boot_o_4 P::boot_o_5 P::boot_o_6 P::boot_o_7 P::boot_o_8 P::boot_o_9 P::boot_o_10 P::t []::z::b0 P (b1 P (b2 P (b3 P (b4 P (b5 P (b6 P (b7 P (b8 P (b9 P [])))))))))
noncomputable def al:Bool->ae Obj->ae Obj |_,[]=>[] |true,x::l=>x::al false l |false,_::l=>al true l
noncomputable def bd:Nat->ae Obj->BT |0,_=> .nil |_+1,[]=> .nil |k+1,x::l=> .node x (bd k (al true l)) (bd k (al false l))
noncomputable def KZ:ae Obj->Nat->Obj |[],_=>t [] |x::_,0=>x |_::l,n+1=>KZ l n
noncomputable def fin(P:bg):ae Obj:=ol P (x2 P) (x3 P qS 39) (mM 81)
noncomputable def keep:ae Addr:=[2,3,15,17,18,20,21,22,25,30,31,33,34,36,37,38,40,41,43,44,45,46,47,48,51,58,59,60,63,70,71,72,75,78,79,80,82,83,85,86,87,90,91,92,95,96,97,100,101,109,111,112,114,115,116,118,119,121,122,123,126,127,128,130,131,133,134,135,137,138,140,141,142,145,146,147,149,150,152,153,154,156,157,159,160,161,163,164,166,167,168,170,171,173,174,175,178,179,180,182,183,185,186,187,189,190,192,193,194,196,197,199,200,201,202,203,204,205,208,210,211,213,214,222,224,225,227,228,229,232,233,234,236,237,239,240,241,243,244,246,247,248,250,251,253,254,255,256,257,258,259,269,271,272,274,275,276,278,279,281,282,283,285,286,288,289,290,292,293,295,296,297,299,300,302,303,304,306,307,309,310,311,314,315,316,318,319,321,322,323,325,326,328,329,330,332,333,335,336,337,338,339,340,341,351,353,354,356,357,358,360,361,363,364,365,368,369,370,373,374,375,378,379,380,382,383,385,386,387,389,390,392,393,394,396,397,399,400,401,403,404,406,407,408,410,411,413,414,415,417,418,420,421,422,424,425,427,428,429,431,432,434,435,436,438,439,441,442,443,446,447,448,450,451,453,454,455,458,459,460,462,463,465,466,467,468,469,470,471,481,483,484,486,487,488,491,492,493,495,496,498,499,500,503,504,505,506,507,508,509,512,520,523,524,525,527,528,530,531,532,533,534,535,536,546,548,549,551,552,553,556,557,558,561,562,563,565,566,568,569,570,571,572,573,574,584,587,588,589,591,592,594,595,596,598,599,601,602,603,606,607,608,610,611,613,614,615,618,619,620,623,624,625,626,627,628,629,632,635,636,637,638,639,644,646,647,649,650,651,653,654,656,657,665,667,668,670,671,672,674,675,677,678,679,682,683,684,685,686,687,688,691,693,694,696,697,698,700,701,703,704,705,708,709,710,713,714,715,718,719]
noncomputable def heap_39(P:bg):Frag:=keep.map λa=>(a,KZ (fin P) a)
theorem keep_ok(P:bg):keep=(heap_39 P).map (·.1):=by rw[heap_39,cQ];exact(p_ _).symm
noncomputable def af:Env:={scope:=pg.main.scope,locals:=mainNs,globals:=mainNs,cells:=[],code:= .ref 13,frame:=some 14}
noncomputable def cE:Code:= .body (xr pg) af
noncomputable def tr(P:bg)(n:Nat)(x y z:Obj):BT:=bd 10 ((ol P x y z).take n)
noncomputable def sl(i k:Nat):ae Stmt:=((xr pg).drop i).take k
noncomputable def st(w:World)(os:c6)(n t:Nat)(x y z:Obj):SharedT:=⟨tr w.params n x y z,n,{},#[],{},t,os⟩
noncomputable def z0:Pos:=⟨0,0,0,0⟩
noncomputable def s0(w:World)(os:c6):SharedT:=st w os 15 187 ⟨.none,none,.dict #[] 0,#[]⟩ (x3 w.params n0 8) (mM 0)
noncomputable def s1(w:World)(os:c6):SharedT:=st w os 102 299 (x2 w.params) (x3 w.params n2 17) (mM 27)
theorem p1(w:World)(os:c6):qn jE pg w 11 (some (.ref 6)) 1 882 (s0 w os) (oA (sl 0 11) af cE z0 [kx z0])=some (.next,s1 w os,cE,⟨29,0,31,98⟩):=by
 rewrite [PySem.W.Fast.te10110043849684766642,PySem.W.Fast.te14364793385576792824];kernel_rfl
noncomputable def s2(w:World)(os:c6):SharedT:=st w os 208 430 (x2 w.params) (x3 w.params n2 18) (mM 30)
theorem p2(w:World)(os:c6):qn jE pg w 11 (some (.ref 6)) 1 631 (s1 w os) (oA (sl 11 1) af cE ⟨29,0,31,98⟩ [kx z0])=some (.next,s2 w os,cE,⟨32,0,100,56⟩):=by
 rewrite [PySem.W.Fast.te10110043849684766642,PySem.W.Fast.te14364793385576792824];kernel_rfl
noncomputable def s3(w:World)(os:c6):SharedT:=st w os 262 507 (x2 w.params) (x3 w.params n4 20) (mM 36)
theorem p3(w:World)(os:c6):qn jE pg w 11 (some (.ref 6)) 1 401 (s2 w os) (oA (sl 12 4) af cE ⟨32,0,100,56⟩ [kx z0])=some (.next,s3 w os,cE,⟨135,0,135,8⟩):=by
 rewrite [PySem.W.Fast.te10110043849684766642,PySem.W.Fast.te14364793385576792824];kernel_rfl
noncomputable def s4(w:World)(os:c6):SharedT:=st w os 344 609 (x2 w.params) (x3 w.params n5 21) (mM 39)
theorem p4(w:World)(os:c6):qn jE pg w 11 (some (.ref 6)) 1 517 (s3 w os) (oA (sl 16 2) af cE ⟨135,0,135,8⟩ [kx z0])=some (.next,s4 w os,cE,⟨179,0,179,8⟩):=by
 rewrite [PySem.W.Fast.te10110043849684766642,PySem.W.Fast.te14364793385576792824];kernel_rfl
noncomputable def s5(w:World)(os:c6):SharedT:=st w os 474 773 (x2 w.params) (x3 w.params n5 22) (mM 42)
theorem p5(w:World)(os:c6):qn jE pg w 11 (some (.ref 6)) 1 756 (s4 w os) (oA (sl 18 1) af cE ⟨179,0,179,8⟩ [kx z0])=some (.next,s5 w os,cE,⟨180,0,260,16⟩):=by
 rewrite [PySem.W.Fast.te10110043849684766642,PySem.W.Fast.te14364793385576792824];kernel_rfl
noncomputable def s6(w:World)(os:c6):SharedT:=st w os 539 870 (x2 w.params) (x3 w.params n7 25) (mM 48)
theorem p6(w:World)(os:c6):qn jE pg w 11 (some (.ref 6)) 1 597 (s5 w os) (oA (sl 19 5) af cE ⟨180,0,260,16⟩ [kx z0])=some (.next,s6 w os,cE,⟨292,0,311,17⟩):=by
 rewrite [PySem.W.Fast.te10110043849684766642,PySem.W.Fast.te14364793385576792824];kernel_rfl
noncomputable def s7(w:World)(os:c6):SharedT:=st w os 632 1005 (x2 w.params) (x3 w.params n7 27) (mM 54)
theorem p7(w:World)(os:c6):qn jE pg w 11 (some (.ref 6)) 1 726 (s6 w os) (oA (sl 24 2) af cE ⟨292,0,311,17⟩ [kx z0])=some (.next,s7 w os,cE,⟨332,0,402,23⟩):=by
 rewrite [PySem.W.Fast.te10110043849684766642,PySem.W.Fast.te14364793385576792824];kernel_rfl
noncomputable def s8(w:World)(os:c6):SharedT:=st w os 720 1119 (x2 w.params) (x3 w.params qS 39) (mM 81)
theorem p8(w:World)(os:c6):qn jE pg w 11 (some (.ref 6)) 1 626 (s7 w os) (oA (sl 26 13) af cE ⟨332,0,402,23⟩ [kx z0])=some (.next,s8 w os,cE,⟨459,0,485,15⟩):=by
 rewrite [PySem.W.Fast.te10110043849684766642,PySem.W.Fast.te14364793385576792824];exact byRow2 "special-get-raises" (P:=λw=>Fast.tw10110043849684766642 Fast.tw14364793385576792824 pg w 11 (some (.ref 6)) 1 626 (s7 w os) (oA (sl 26 13) af cE ⟨332,0,402,23⟩ [kx z0])=some (.next,s8 w os,cE,⟨459,0,485,15⟩)) (λw=>by kernel_rfl) (λw=>by kernel_rfl) w
noncomputable def sf(w:World)(os:c6):Shared:=⟨⟨(fin w.params).toArray,{}⟩,#[],{},1119,os⟩
theorem pz(w:World)(os:c6):topGo jE pg w 11 (some (.ref 6)) 12 ⟨boot_heap w.params,ay.mk [],boot_drawn,boot_toks,os⟩ (topStub pg)=some ((s0 w os).abs,⟨denote jE cE,cE,z0,[kx z0]⟩):=by
 rewrite [PySem.W.Fast.te15667345088766844465,PySem.W.Fast.te14364793385576792824,PySem.W.Fast.te11892475500146522536];kernel_rfl
theorem py(w:World)(os:c6):segRun jE pg w 11 (some (.ref 6)) 1 1 (s0 w os).abs (blockOf (xr pg) af cE z0 [kx z0])=some (.next,(s0 w os).abs,cE,z0):=by
 rewrite [PySem.W.Fast.te14374325043358763698,PySem.W.Fast.te14364793385576792824];kernel_rfl
theorem px(w:World)(os:c6):topRun jE pg w 11 (some (.ref 6)) 2 (s8 w os).abs ⟨doneF .next,cE,⟨459,0,485,15⟩,[kx z0]⟩=some (sf w os):=by
 rewrite [PySem.W.Fast.te14082659384304107361,PySem.W.Fast.te14364793385576792824];kernel_rfl
theorem ct:xr pg=sl 0 11++(sl 11 1++(sl 12 4++(sl 16 2++(sl 18 1++(sl 19 5++(sl 24 2++(sl 26 13++[]))))))):=by kernel_rfl
theorem rest(w:World)(os:c6):topRun jE pg w 11 (some (.ref 6)) (882+(631+(401+(517+(756+(597+(726+(626+2)))))))) (s0 w os).abs (restOf (xr pg) af cE z0 [kx z0])=some (sf w os):=by
 rewrite [ct]
 exact qc (qd (p1 w os)) (qc (qd (p2 w os)) (qc (qd (p3 w os)) (qc (qd (p4 w os)) (qc (qd (p5 w os)) (qc (qd (p6 w os)) (qc (qd (p7 w os)) (qc (qd (p8 w os)) (piece_nil (px w os)))))))))
theorem run(w:World)(os:c6):topRun jE pg w 11 (some (.ref 6)) (12+(1+(882+(631+(401+(517+(756+(597+(726+(626+2)))))))))) ⟨boot_heap w.params,ay.mk [],boot_drawn,boot_toks,os⟩ (topStub pg)=some (sf w os):=
 go_top (pz w os) (piece_block (py w os) (rest w os))
theorem op:opening pg=plainProg pg.main.scope.names:=by kernel_rfl
theorem fe(s:Shared):fenceModules? pg s=some s:=by kernel_rfl
theorem sz(w:World):((boot_heap w.params).isNs lX&&(ay.mk []:ay GenState).size==0,(boot_heap w.params).objs.size,(boot_heap w.params).nsMap lX "__annotations__")=(true,11,some (.ref 6)):=by
 rewrite [PySem.W.Fast.te8920871248978507458];kernel_rfl
noncomputable def vw:Program:=view pg [0,2,3,4,6,7,8,9,10,11,13,14,16,18,20,22,23,24,25,27,29,30,31,32,34,35,36,37,38]
noncomputable def lo:ae Str:=[Str.ofString "A",Str.ofString "B",Str.ofString "C"]
noncomputable def lv:ae (Str×sM):=[(Str.ofString "A",.tuple [.str ⟨#[63,97]⟩]),(Str.ofString "B",.tuple [.str ⟨#[63,98]⟩]),(Str.ofString "C",.tuple [.str ⟨#[63,99]⟩])]
noncomputable def rw':RowW:=PySem.Challenge.rw_pq0098_01.row.toRowW
theorem a0(w:World)(os:c6):(staticsOk (importedModules pg.main.body) (boot_heap w.params) (sf w os).heap&&namesBound pg (sf w os).heap&&gensDone (sf w os)&&laidKept (boot_heap w.params) (sf w os).heap)=true:=by
 rewrite [PySem.W.Fast.te5923862056798008813];kernel_rfl
theorem a1(w:World)(os:c6):seen ((recsOf vw).map (·.name)) (ownsOf vw) [] {sf w os with gens:= #[]}=expectedOf vw:=by
 rewrite [PySem.W.Fast.te5160383126252970620];kernel_rfl
theorem a2(w:World)(os:c6):(sf w os).heap.bltView=bltViewBooted:=by kernel_rfl
theorem a3(w:World)(os:c6):((sf w os).heap.keysOk (looseW vw lo) ((recsOf vw).map (·.name)) ((litsOf vw).map (·.1)) ((clssOf vw (looseW vw lo)).map (·.name)))=true:=by
 rewrite [PySem.W.Fast.te10880121769531294198];kernel_rfl
theorem a4(w:World)(os:c6):(sf w os).heap.accountedOkI (importedModules pg.main.body)=true:=by
 rewrite [PySem.W.Fast.te14722251495701143533,PySem.W.Fast.te5923862056798008813];kernel_rfl
theorem a5(w:World)(os:c6):((sf w os).heap.isNs lX&&(sf w os).heap.isNs builtinsNs)=true:=by kernel_rfl
theorem a6(w:World)(os:c6):tablesOk vw (sf w os).heap=true:=by
 rewrite [PySem.W.Fast.te10994771534591457954];kernel_rfl
theorem a7(w:World)(os:c6):xlAt vw lv (sf w os)=true:=by kernel_rfl
theorem XI(w:World)(os:c6):recOk (RowW.records rw') (sf w os)=true:=by kernel_rfl
theorem a8(w:World)(os:c6):tabsOk vw (sf w os)=true:=by
 rewrite [PySem.W.Fast.te479339242167458305];kernel_rfl
theorem a9(w:World)(os:c6):pinSeenD vw (drecsOf vw) (sf w os)=pinGoodD (drecsOf vw):=by
 rewrite [PySem.W.Fast.te16090120013241838585];kernel_rfl
theorem c1(w:World)(os:c6):plainSeenE vw (looseW vw lo) (sf w os)=plainGoodE vw (looseW vw lo):=by
 rewrite [PySem.W.Fast.te2386780881361962483];kernel_rfl
theorem c2(w:World)(os:c6):plainSeenD vw lo (sf w os)=plainGoodD vw lo:=by
 rewrite [PySem.W.Fast.te11698064438423848299];kernel_rfl
theorem c3(w:World)(os:c6):wideSeen vw (sf w os)=wideGood vw:=by
 rewrite [PySem.W.Fast.te7317090234206586261];kernel_rfl
theorem c4(w:World)(os:c6):clsSeenW vw lo (sf w os)=clsGoodW vw lo:=by
 rewrite [PySem.W.Fast.te7369524293546568484];kernel_rfl
theorem c5(w:World)(os:c6):(kHook heap_39 keep keep_ok).obs (sf w os)=(kHook heap_39 keep keep_ok).val w:=by kernel_rfl
theorem lk(w:World):(λos=>((staticsOk (importedModules pg.main.body) (boot_heap w.params) (sf w os).heap&&namesBound pg (sf w os).heap&&gensDone (sf w os)&&laidKept (boot_heap w.params) (sf w os).heap),
  openSeen vw lo (importedModules pg.main.body) (λs=>xlAt vw lv s&&recOk (RowW.records rw') s) true (sf w os),(kHook heap_39 keep keep_ok).obs (sf w os)))=λω=>(true,openGood vw lo,(kHook heap_39 keep keep_ok).val w):=by
 funext os
 have h5:=Bool.and_eq_true_iff.mp (a5 w os)
 exact ny (a0 w os) (ny (ny (a1 w os) (ny (a2 w os) (ny (r6 (r6 (r6 (r6 (r6 (r6 (a3 w os) (a4 w os)) h5.1) h5.2) (a6 w os)) (r6 (a7 w os) (XI w os))) rfl)
  (ny (a8 w os) (ny (a9 w os) (ny (c1 w os) (ny (c2 w os) (ny (c3 w os) (c4 w os))))))))) (c5 w os))
theorem left:LeftO pg vw lo (λs=>xlAt vw lv s&&recOk (RowW.records rw') s) (kHook heap_39 keep keep_ok).obs (kHook heap_39 keep keep_ok).val 10382:=
 LeftO.of_pieces (H₀:=boot_heap) (H₁:=λP=>⟨(fin P).toArray,{}⟩) (boot_open op rfl fe) sz run rfl lk
noncomputable def dr:Stmt->DefRec
 | .FunctionDef n a b _ _ _ s _ _ p=>⟨n,a,b,s,p⟩
 |_=>⟨⟨#[]⟩,⟨[],[],none,[],[],none,[]⟩,[],pg.main.scope,z0⟩
theorem e1:defOf vw PySem.Challenge.rw_pq0098_01.row.name=some (dr (q 38),[]):=by kernel_rfl
theorem e2:PySem.Challenge.rw_pq0098_01.row.prog.theDef PySem.Challenge.rw_pq0098_01.row.name=some ((dr (q 38)).params,(dr (q 38)).body,(dr (q 38)).scope):=by kernel_rfl
theorem e3:kwWritten? (dr (q 38)).params.kwonlyargs (dr (q 38)).params.kw_defaults=some []:=by kernel_rfl
theorem e4:(!PySem.Challenge.rw_pq0098_01.row.writes||PySem.Challenge.rw_pq0098_01.row.records.isEmpty)=true:=by kernel_rfl
theorem e5:(chainsOk vw&&opensWell PySem.Challenge.rw_pq0098_01.row.prog&&(frees PySem.Challenge.rw_pq0098_01.row.toRowW&&PySem.Challenge.rw_pq0098_01.row.within.isEmpty))=true:=by kernel_rfl
theorem e6:PySem.Challenge.rw_pq0098_01.row.prog.bare:=⟨by kernel_rfl,by kernel_rfl,by kernel_rfl,by kernel_rfl,by kernel_rfl,by decide+kernel⟩
theorem e7:PySem.Challenge.rw_pq0098_01.row.toRowW.promised:=by w_witness2
theorem top(walk:WalkO vw lo (XL vw lv) (kHook heap_39 keep keep_ok).says PySem.Challenge.rw_pq0098_01.row.toRowW (dr (q 38)) [] (λf vs=>PySem.call f vs))(h:PySem.Challenge.rw_pq0098_01.wellSaid=true):PySem.Challenge.rw_pq0098_01.Holds:=
 holds_law h λWm=>holds_open left (kHook heap_39 keep keep_ok).of (kHook heap_39 keep keep_ok).keeps (λs e=>xl_of s (Bool.and_eq_true_iff.mp e).1) XL.keeps e1 e2 e3 (λs e=>recFacts_of (Bool.and_eq_true_iff.mp e).2) e4 Wm e5 e6 e7 walk
theorem e8:PySem.Challenge.rw_pq0098_01.wellSaid=true:=by kernel_rfl
end Mine.hd
end
namespace Mine
open PySem PySem.W PyProof.Rows PySem.Calls PySem.SeqAt
open Classical
theorem x0_2{A B:Prop}{g:Prop}(h:A/\B)(k:A->B->g):g:=k h.1 h.2
theorem x0_3{A B C:Prop}{g:Prop}(h:A/\B/\C)(k:A->B->C->g):g:=k h.1 h.2.1 h.2.2
theorem x0_4{A B C D:Prop}{g:Prop}(h:A/\B/\C/\D)(k:A->B->C->D->g):g:=k h.1 h.2.1 h.2.2.1 h.2.2.2
theorem x0_5{A B C D E:Prop}{g:Prop}(h:A/\B/\C/\D/\E)(k:A->B->C->D->E->g):g:=k h.1 h.2.1 h.2.2.1 h.2.2.2.1 h.2.2.2.2
theorem x0_6{A B C D E F:Prop}{g:Prop}(h:A/\B/\C/\D/\E/\F)(k:A->B->C->D->E->F->g):g:=k h.1 h.2.1 h.2.2.1 h.2.2.2.1 h.2.2.2.2.1 h.2.2.2.2.2
theorem x0_7{A B C D E F I:Prop}{g:Prop}(h:A/\B/\C/\D/\E/\F/\I)(k:A->B->C->D->E->F->I->g):g:=k h.1 h.2.1 h.2.2.1 h.2.2.2.1 h.2.2.2.2.1 h.2.2.2.2.2.1 h.2.2.2.2.2.2
theorem x0_8{A B C D E F I J:Prop}{g:Prop}(h:A/\B/\C/\D/\E/\F/\I/\J)(k:A->B->C->D->E->F->I->J->g):g:=k h.1 h.2.1 h.2.2.1 h.2.2.2.1 h.2.2.2.2.1 h.2.2.2.2.2.1 h.2.2.2.2.2.2.1 h.2.2.2.2.2.2.2
theorem x1_1{α:Sort _}{A:α->Prop}{g:Prop}(h: ∃x,A x)(k: ∀x,A x->g):g:=h.elim λx h=>k x h
theorem x1_2{α:Sort _}{A B:α->Prop}{g:Prop}(h: ∃x,A x/\B x)(k: ∀x,A x->B x->g):g:=h.elim λx h=>k x h.1 h.2
theorem x1_3{α:Sort _}{A B C:α->Prop}{g:Prop}(h: ∃x,A x/\B x/\C x)(k: ∀x,A x->B x->C x->g):g:=h.elim λx h=>k x h.1 h.2.1 h.2.2
theorem x1_4{α:Sort _}{A B C D:α->Prop}{g:Prop}(h: ∃x,A x/\B x/\C x/\D x)(k: ∀x,A x->B x->C x->D x->g):g:=h.elim λx h=>k x h.1 h.2.1 h.2.2.1 h.2.2.2
theorem x1_5{α:Sort _}{A B C D E:α->Prop}{g:Prop}(h: ∃x,A x/\B x/\C x/\D x/\E x)(k: ∀x,A x->B x->C x->D x->E x->g):g:=h.elim λx h=>k x h.1 h.2.1 h.2.2.1 h.2.2.2.1 h.2.2.2.2
theorem x1_6{α:Sort _}{A B C D E F:α->Prop}{g:Prop}(h: ∃x,A x/\B x/\C x/\D x/\E x/\F x)(k: ∀x,A x->B x->C x->D x->E x->F x->g):g:=h.elim λx h=>k x h.1 h.2.1 h.2.2.1 h.2.2.2.1 h.2.2.2.2.1 h.2.2.2.2.2
theorem x1_7{α:Sort _}{A B C D E F I:α->Prop}{g:Prop}(h: ∃x,A x/\B x/\C x/\D x/\E x/\F x/\I x)(k: ∀x,A x->B x->C x->D x->E x->F x->I x->g):g:=h.elim λx h=>k x h.1 h.2.1 h.2.2.1 h.2.2.2.1 h.2.2.2.2.1 h.2.2.2.2.2.1 h.2.2.2.2.2.2
theorem x1_8{α:Sort _}{A B C D E F I J:α->Prop}{g:Prop}(h: ∃x,A x/\B x/\C x/\D x/\E x/\F x/\I x/\J x)(k: ∀x,A x->B x->C x->D x->E x->F x->I x->J x->g):g:=h.elim λx h=>k x h.1 h.2.1 h.2.2.1 h.2.2.2.1 h.2.2.2.2.1 h.2.2.2.2.2.1 h.2.2.2.2.2.2.1 h.2.2.2.2.2.2.2
theorem x2_1{α:Sort _}{β:Sort _}{A:α->β->Prop}{g:Prop}(h: ∃x y,A x y)(k: ∀x y,A x y->g):g:=h.elim λx h=>h.elim λy h=>k x y h
theorem x2_2{α:Sort _}{β:Sort _}{A B:α->β->Prop}{g:Prop}(h: ∃x y,A x y/\B x y)(k: ∀x y,A x y->B x y->g):g:=h.elim λx h=>h.elim λy h=>k x y h.1 h.2
theorem x2_3{α:Sort _}{β:Sort _}{A B C:α->β->Prop}{g:Prop}(h: ∃x y,A x y/\B x y/\C x y)(k: ∀x y,A x y->B x y->C x y->g):g:=h.elim λx h=>h.elim λy h=>k x y h.1 h.2.1 h.2.2
theorem x2_4{α:Sort _}{β:Sort _}{A B C D:α->β->Prop}{g:Prop}(h: ∃x y,A x y/\B x y/\C x y/\D x y)(k: ∀x y,A x y->B x y->C x y->D x y->g):g:=h.elim λx h=>h.elim λy h=>k x y h.1 h.2.1 h.2.2.1 h.2.2.2
theorem x2_5{α:Sort _}{β:Sort _}{A B C D E:α->β->Prop}{g:Prop}(h: ∃x y,A x y/\B x y/\C x y/\D x y/\E x y)(k: ∀x y,A x y->B x y->C x y->D x y->E x y->g):g:=h.elim λx h=>h.elim λy h=>k x y h.1 h.2.1 h.2.2.1 h.2.2.2.1 h.2.2.2.2
theorem x2_6{α:Sort _}{β:Sort _}{A B C D E F:α->β->Prop}{g:Prop}(h: ∃x y,A x y/\B x y/\C x y/\D x y/\E x y/\F x y)(k: ∀x y,A x y->B x y->C x y->D x y->E x y->F x y->g):g:=h.elim λx h=>h.elim λy h=>k x y h.1 h.2.1 h.2.2.1 h.2.2.2.1 h.2.2.2.2.1 h.2.2.2.2.2
theorem x2_7{α:Sort _}{β:Sort _}{A B C D E F I:α->β->Prop}{g:Prop}(h: ∃x y,A x y/\B x y/\C x y/\D x y/\E x y/\F x y/\I x y)(k: ∀x y,A x y->B x y->C x y->D x y->E x y->F x y->I x y->g):g:=h.elim λx h=>h.elim λy h=>k x y h.1 h.2.1 h.2.2.1 h.2.2.2.1 h.2.2.2.2.1 h.2.2.2.2.2.1 h.2.2.2.2.2.2
theorem x2_8{α:Sort _}{β:Sort _}{A B C D E F I J:α->β->Prop}{g:Prop}(h: ∃x y,A x y/\B x y/\C x y/\D x y/\E x y/\F x y/\I x y/\J x y)(k: ∀x y,A x y->B x y->C x y->D x y->E x y->F x y->I x y->J x y->g):g:=h.elim λx h=>h.elim λy h=>k x y h.1 h.2.1 h.2.2.1 h.2.2.2.1 h.2.2.2.2.1 h.2.2.2.2.2.1 h.2.2.2.2.2.2.1 h.2.2.2.2.2.2.2
theorem x3_1{α:Sort _}{β:Sort _}{γ:Sort _}{A:α->β->γ->Prop}{g:Prop}(h: ∃x y z,A x y z)(k: ∀x y z,A x y z->g):g:=h.elim λx h=>h.elim λy h=>h.elim λz h=>k x y z h
theorem x3_2{α:Sort _}{β:Sort _}{γ:Sort _}{A B:α->β->γ->Prop}{g:Prop}(h: ∃x y z,A x y z/\B x y z)(k: ∀x y z,A x y z->B x y z->g):g:=h.elim λx h=>h.elim λy h=>h.elim λz h=>k x y z h.1 h.2
theorem x3_3{α:Sort _}{β:Sort _}{γ:Sort _}{A B C:α->β->γ->Prop}{g:Prop}(h: ∃x y z,A x y z/\B x y z/\C x y z)(k: ∀x y z,A x y z->B x y z->C x y z->g):g:=h.elim λx h=>h.elim λy h=>h.elim λz h=>k x y z h.1 h.2.1 h.2.2
theorem x3_4{α:Sort _}{β:Sort _}{γ:Sort _}{A B C D:α->β->γ->Prop}{g:Prop}(h: ∃x y z,A x y z/\B x y z/\C x y z/\D x y z)(k: ∀x y z,A x y z->B x y z->C x y z->D x y z->g):g:=h.elim λx h=>h.elim λy h=>h.elim λz h=>k x y z h.1 h.2.1 h.2.2.1 h.2.2.2
theorem x3_5{α:Sort _}{β:Sort _}{γ:Sort _}{A B C D E:α->β->γ->Prop}{g:Prop}(h: ∃x y z,A x y z/\B x y z/\C x y z/\D x y z/\E x y z)(k: ∀x y z,A x y z->B x y z->C x y z->D x y z->E x y z->g):g:=h.elim λx h=>h.elim λy h=>h.elim λz h=>k x y z h.1 h.2.1 h.2.2.1 h.2.2.2.1 h.2.2.2.2
theorem x3_6{α:Sort _}{β:Sort _}{γ:Sort _}{A B C D E F:α->β->γ->Prop}{g:Prop}(h: ∃x y z,A x y z/\B x y z/\C x y z/\D x y z/\E x y z/\F x y z)(k: ∀x y z,A x y z->B x y z->C x y z->D x y z->E x y z->F x y z->g):g:=h.elim λx h=>h.elim λy h=>h.elim λz h=>k x y z h.1 h.2.1 h.2.2.1 h.2.2.2.1 h.2.2.2.2.1 h.2.2.2.2.2
theorem x3_7{α:Sort _}{β:Sort _}{γ:Sort _}{A B C D E F I:α->β->γ->Prop}{g:Prop}(h: ∃x y z,A x y z/\B x y z/\C x y z/\D x y z/\E x y z/\F x y z/\I x y z)(k: ∀x y z,A x y z->B x y z->C x y z->D x y z->E x y z->F x y z->I x y z->g):g:=h.elim λx h=>h.elim λy h=>h.elim λz h=>k x y z h.1 h.2.1 h.2.2.1 h.2.2.2.1 h.2.2.2.2.1 h.2.2.2.2.2.1 h.2.2.2.2.2.2
theorem x3_8{α:Sort _}{β:Sort _}{γ:Sort _}{A B C D E F I J:α->β->γ->Prop}{g:Prop}(h: ∃x y z,A x y z/\B x y z/\C x y z/\D x y z/\E x y z/\F x y z/\I x y z/\J x y z)(k: ∀x y z,A x y z->B x y z->C x y z->D x y z->E x y z->F x y z->I x y z->J x y z->g):g:=h.elim λx h=>h.elim λy h=>h.elim λz h=>k x y z h.1 h.2.1 h.2.2.1 h.2.2.2.1 h.2.2.2.2.1 h.2.2.2.2.2.1 h.2.2.2.2.2.2.1 h.2.2.2.2.2.2.2
theorem x4_1{α:Sort _}{β:Sort _}{γ:Sort _}{δ:Sort _}{A:α->β->γ->δ->Prop}{g:Prop}(h: ∃x y z w,A x y z w)(k: ∀x y z w,A x y z w->g):g:=h.elim λx h=>h.elim λy h=>h.elim λz h=>h.elim λw h=>k x y z w h
theorem x4_2{α:Sort _}{β:Sort _}{γ:Sort _}{δ:Sort _}{A B:α->β->γ->δ->Prop}{g:Prop}(h: ∃x y z w,A x y z w/\B x y z w)(k: ∀x y z w,A x y z w->B x y z w->g):g:=h.elim λx h=>h.elim λy h=>h.elim λz h=>h.elim λw h=>k x y z w h.1 h.2
theorem x4_3{α:Sort _}{β:Sort _}{γ:Sort _}{δ:Sort _}{A B C:α->β->γ->δ->Prop}{g:Prop}(h: ∃x y z w,A x y z w/\B x y z w/\C x y z w)(k: ∀x y z w,A x y z w->B x y z w->C x y z w->g):g:=h.elim λx h=>h.elim λy h=>h.elim λz h=>h.elim λw h=>k x y z w h.1 h.2.1 h.2.2
theorem x4_4{α:Sort _}{β:Sort _}{γ:Sort _}{δ:Sort _}{A B C D:α->β->γ->δ->Prop}{g:Prop}(h: ∃x y z w,A x y z w/\B x y z w/\C x y z w/\D x y z w)(k: ∀x y z w,A x y z w->B x y z w->C x y z w->D x y z w->g):g:=h.elim λx h=>h.elim λy h=>h.elim λz h=>h.elim λw h=>k x y z w h.1 h.2.1 h.2.2.1 h.2.2.2
theorem x4_5{α:Sort _}{β:Sort _}{γ:Sort _}{δ:Sort _}{A B C D E:α->β->γ->δ->Prop}{g:Prop}(h: ∃x y z w,A x y z w/\B x y z w/\C x y z w/\D x y z w/\E x y z w)(k: ∀x y z w,A x y z w->B x y z w->C x y z w->D x y z w->E x y z w->g):g:=h.elim λx h=>h.elim λy h=>h.elim λz h=>h.elim λw h=>k x y z w h.1 h.2.1 h.2.2.1 h.2.2.2.1 h.2.2.2.2
theorem x4_6{α:Sort _}{β:Sort _}{γ:Sort _}{δ:Sort _}{A B C D E F:α->β->γ->δ->Prop}{g:Prop}(h: ∃x y z w,A x y z w/\B x y z w/\C x y z w/\D x y z w/\E x y z w/\F x y z w)(k: ∀x y z w,A x y z w->B x y z w->C x y z w->D x y z w->E x y z w->F x y z w->g):g:=h.elim λx h=>h.elim λy h=>h.elim λz h=>h.elim λw h=>k x y z w h.1 h.2.1 h.2.2.1 h.2.2.2.1 h.2.2.2.2.1 h.2.2.2.2.2
theorem x4_7{α:Sort _}{β:Sort _}{γ:Sort _}{δ:Sort _}{A B C D E F I:α->β->γ->δ->Prop}{g:Prop}(h: ∃x y z w,A x y z w/\B x y z w/\C x y z w/\D x y z w/\E x y z w/\F x y z w/\I x y z w)(k: ∀x y z w,A x y z w->B x y z w->C x y z w->D x y z w->E x y z w->F x y z w->I x y z w->g):g:=h.elim λx h=>h.elim λy h=>h.elim λz h=>h.elim λw h=>k x y z w h.1 h.2.1 h.2.2.1 h.2.2.2.1 h.2.2.2.2.1 h.2.2.2.2.2.1 h.2.2.2.2.2.2
theorem x4_8{α:Sort _}{β:Sort _}{γ:Sort _}{δ:Sort _}{A B C D E F I J:α->β->γ->δ->Prop}{g:Prop}(h: ∃x y z w,A x y z w/\B x y z w/\C x y z w/\D x y z w/\E x y z w/\F x y z w/\I x y z w/\J x y z w)(k: ∀x y z w,A x y z w->B x y z w->C x y z w->D x y z w->E x y z w->F x y z w->I x y z w->J x y z w->g):g:=h.elim λx h=>h.elim λy h=>h.elim λz h=>h.elim λw h=>k x y z w h.1 h.2.1 h.2.2.1 h.2.2.2.1 h.2.2.2.2.1 h.2.2.2.2.2.1 h.2.2.2.2.2.2.1 h.2.2.2.2.2.2.2
@[elab_as_elim] theorem rwrr{α:Sort _}{p:α->Prop}{a b:α}(h:a=b)(n:p b):p a:=h▸n
@[elab_as_elim] theorem rwll{α:Sort _}{p:α->Prop}{a b:α}(h:a=b)(n:p a):p b:=h▸n
@[elab_as_elim] theorem gn{α:Sort _}{p:α->Prop}(a:α)(h: ∀b,a=b->p b):p a:=h a rfl
@[elab_as_elim] theorem dP{α:Sort _}{p:α->Prop}(a:α)(h: ∀b,p b):p a:=h a
abbrev KB{α β:Type}(M:Model)(A:bo)(f:α->bw β)(Q:β->Shared->Prop)(E:Value->Shared->Prop):α->Shared->Prop:=λa s=>ai M A (f a) Q E s
theorem wb{α β:Type}{M:Model}{A:bo}{E:Value->Shared->Prop}{s:Shared}{m:bw α}{f:α->bw β}{Q:β->Shared->Prop}(h:ai M A m (KB M A f Q E) E s):ai M A (m>>=f) Q E s:=cS h
abbrev KT{σ α β:Type}(M:Model)(A:bo)(E:Value->Shared->Prop)(s:Shared)(f:α->cW σ bw β)(Q:β->σ->Prop):α->σ->Prop:=λa st=>cC M A E s (f a) Q st
theorem wt{M:Model}{A:bo}{E:Value->Shared->Prop}{s:Shared}{σ α β:Type}{m:cW σ bw α}{f:α->cW σ bw β}{Q:β->σ->Prop}{st:σ}(h:cC M A E s m (KT M A E s f Q) st):cC M A E s (m>>=f) Q st:=eF h
theorem wp_if_no{M:Model}{A:bo}{s:Shared}{E:Value->Shared->Prop}{α:Type}{c:Prop}[ux c]{a b:bw α}{Q:α->Shared->Prop}(h: ¬c)(k:ai M A b Q E s):ai M A (if c then a else b) Q E s:=by rewrite [aK h];exact k
theorem wp_if_yes{M:Model}{A:bo}{s:Shared}{E:Value->Shared->Prop}{α:Type}{c:Prop}[ux c]{a b:bw α}{Q:α->Shared->Prop}(h:c)(k:ai M A a Q E s):ai M A (if c then a else b) Q E s:=by rewrite [if_pos h];exact k
theorem oG{i k z:Nat}(h:i+k=z)(l:i<z):k - 1<k/\i+1+(k - 1)=z:=by
 cases k with
 |zero=>exact ax h (Nat.ne_of_lt l)
 |succ k=>exact⟨Nat.lt_succ_self k,(Nat.add_right_comm i 1 k).trans h⟩
theorem BD{i k z:Nat}(h:i+k=z)(l:z<=i):i=z:=Nat.le_antisymm (h▸Nat.le_add_right i k) l
theorem BE{α:Type}{l:ae α}{i:Nat}{x:α}{r:ae α}(h:l.drop i=x::r):i<l.length:=Nat.lt_of_not_le λq=>nomatch (Nl q).symm.trans h
theorem Kd{a n c:Nat}(m:Nat)(h:a+n<c)(k:m<=n:=by exact Nat.le_of_ble_eq_true rfl):a+m<c:=Nat.lt_of_le_of_lt (Nat.add_le_add_left k a) h
theorem nos{α:Type}{a:α}{C:Prop}(h:none=some a):C:=nomatch h
theorem non{α:Type}{a:α}{C:Prop}(h:some a=none):C:=nomatch h
inductive AV where
 |int (i:aj)
 |str (s:Str)
 |raw (v:Value)
 |tup (l:ae AV)
 |lst (l:ae AV)
 |ca (l:ae (AV×AV))
 |ins (C:Addr) (l:ae (Str×AV))
 |obj (x C dx:Addr)
 |view (l:ae (AV×AV))
set_option genInjectivity false in
inductive AO where
 |list (l:ae AV)
 |dict (l:ae (AV×AV))
 |attrs (l:ae (Str×AV))
 |set (l:ae AV)
 |raw (o:Obj)
noncomputable abbrev PM:=Addr->aB Obj
def PM.le(P P':PM):Prop:= ∀a o,P a=some o->P' a=some o
theorem PM.le.refl(P:PM):P.le P:=λω ω h=>h
theorem PM.le.trans{P P' pu:PM}(h:P.le P')(h':P'.le pu):P.le pu:=λa o e=>h' a o (h a o e)
noncomputable abbrev ah:=Addr->aB AO
noncomputable def aA(σ:ah)(a:Addr)(o:AO):ah:=λb=>if b=a then some o else σ b
noncomputable def fP(σ:ah)(a:Addr):ah:=λb=>if b=a then none else σ b
@[simp] theorem bB(σ:ah)(a:Addr)(o:AO):aA σ a o a=some o:=by simp[aA]
theorem oQ(σ:ah){a b:Addr}(o:AO)(h:b≠a):aA σ a o b=σ b:=by simp[aA,h]
@[simp] theorem Bp(σ:ah)(a:Addr):fP σ a a=none:=by simp[fP]
theorem iY(σ:ah){a b:Addr}(h:b≠a):fP σ a b=σ b:=by simp[fP,h]
mutual
noncomputable def gj(p:bg):AV->aj
 | .int i=>hashInt i
 | .str s=>lh p s
 | .tup l=>Gi (Ah (uS p l))
 |_=>0
noncomputable def uS(p:bg):ae AV->ae aj
 |[]=>[]
 |a::r=>gj p a::uS p r
end
mutual
inductive RepV(p:bg)(P:PM):AV->Value->Prop
 |int (i:aj) (t:el):RepV p P (.int i) (.int i t)
 |str (s:Str) (t:el):RepV p P (.str s) (.str s t)
 |raw (v:Value):RepV p P (.raw v) v
 |tup {l:ae AV} {a:Addr} {items:ay Value} {n:Nat} (h:P a=some ⟨.type "tuple",none,.seq items n,#[]⟩) (r:RepL p P l items.toList):RepV p P (.tup l) (.ref a)
 |lst {l:ae AV} {a:Addr} {items:ay Value} {n:Nat} (h:P a=some ⟨.type "list",none,.seq items n,#[]⟩) (r:RepL p P l items.toList):RepV p P (.lst l) (.ref a)
 |ca {l:ae (AV×AV)} {a:Addr} {es:ay DictEntry} {n:Nat} (h:P a=some ⟨.type "dict",none,.dict es n,#[]⟩) (hs:a≠1) (r:bv p P l es.toList):RepV p P (.ca l) (.ref a)
 |ins {C:Addr} {l:ae (Str×AV)} {x dx:Addr} {es:ay DictEntry} {n:Nat} (hx:P x=some (l_ C dx)) (h:P dx=some ⟨.type "dict",none,.dict es n,#[]⟩) (r:dh p P l es.toList):RepV p P (.ins C l) (.ref x)
 |obj {x C dx:Addr} (hx:P x=some (l_ C dx)):RepV p P (.obj x C dx) (.ref x)
 |view {l:ae (AV×AV)} {v a:Addr} {es:ay DictEntry} {n:Nat} (hv:P v=some ⟨.type "dict_items",none,.fields #[.ref a],#[]⟩) (h:P a=some ⟨.type "dict",none,.dict es n,#[]⟩) (hs:a≠1) (r:bv p P l es.toList):RepV p P (.view l) (.ref v)
inductive RepL(p:bg)(P:PM):ae AV->ae Value->Prop
 |nil:RepL p P [] []
 |cons {a:AV} {v:Value} {l:ae AV} {vs:ae Value} (h:RepV p P a v) (r:RepL p P l vs):RepL p P (a::l) (v::vs)
inductive bv(p:bg)(P:PM):ae (AV×AV)->ae DictEntry->Prop
 |nil:bv p P [] []
 |cons {k b:AV} {kv v:Value} {l:ae (AV×AV)} {es:ae DictEntry} (hk:RepV p P k kv) (hv:RepV p P b v) (r:bv p P l es):bv p P ((k,b)::l) (⟨gj p k,kv,v⟩::es)
inductive dh(p:bg)(P:PM):ae (Str×AV)->ae DictEntry->Prop
 |nil:dh p P [] []
 |cons {k:Str} {t:el} {b:AV} {v:Value} {l:ae (Str×AV)} {es:ae DictEntry} (hv:RepV p P b v) (r:dh p P l es):dh p P ((k,b)::l) (⟨lh p k,.str k t,v⟩::es)
end
theorem RepV.mono{p:bg}{P P':PM}(h:P.le P'){a:AV}{v:Value}(r:RepV p P a v):RepV p P' a v:=
 RepV.rec (motive_1:=λa v ω=>RepV p P' a v) (motive_2:=λa v ω=>RepL p P' a v) (motive_3:=λa v ω=>bv p P' a v) (motive_4:=λa v ω=>dh p P' a v) .int .str .raw (λe ω r=> .tup (h _ _ e) r) (λe ω r=> .lst (h _ _ e) r) (λe hs ω r=> .ca (h _ _ e) hs r) (λe e' ω r=> .ins (h _ _ e) (h _ _ e') r) (λe=> .obj (h _ _ e)) (λe e' hs ω r=> .view (h _ _ e) (h _ _ e') hs r) .nil (λω ω x r=> .cons x r) .nil (λω ω ω k v r=> .cons k v r) .nil (λω ω v r=> .cons v r) r
theorem RepL.mono{p:bg}{P P':PM}(h:P.le P'){a:ae AV}{v:ae Value}(r:RepL p P a v):RepL p P' a v:=
 RepL.rec (motive_1:=λa v ω=>RepV p P' a v) (motive_2:=λa v ω=>RepL p P' a v) (motive_3:=λa v ω=>bv p P' a v) (motive_4:=λa v ω=>dh p P' a v) .int .str .raw (λe ω r=> .tup (h _ _ e) r) (λe ω r=> .lst (h _ _ e) r) (λe hs ω r=> .ca (h _ _ e) hs r) (λe e' ω r=> .ins (h _ _ e) (h _ _ e') r) (λe=> .obj (h _ _ e)) (λe e' hs ω r=> .view (h _ _ e) (h _ _ e') hs r) .nil (λω ω x r=> .cons x r) .nil (λω ω ω k v r=> .cons k v r) .nil (λω ω v r=> .cons v r) r
theorem bv.mono{p:bg}{P P':PM}(h:P.le P'){a:ae (AV×AV)}{v:ae DictEntry}(r:bv p P a v):bv p P' a v:=
 bv.rec (motive_1:=λa v ω=>RepV p P' a v) (motive_2:=λa v ω=>RepL p P' a v) (motive_3:=λa v ω=>bv p P' a v) (motive_4:=λa v ω=>dh p P' a v) .int .str .raw (λe ω r=> .tup (h _ _ e) r) (λe ω r=> .lst (h _ _ e) r) (λe hs ω r=> .ca (h _ _ e) hs r) (λe e' ω r=> .ins (h _ _ e) (h _ _ e') r) (λe=> .obj (h _ _ e)) (λe e' hs ω r=> .view (h _ _ e) (h _ _ e') hs r) .nil (λω ω x r=> .cons x r) .nil (λω ω ω k v r=> .cons k v r) .nil (λω ω v r=> .cons v r) r
theorem dh.mono{p:bg}{P P':PM}(h:P.le P'){a:ae (Str×AV)}{v:ae DictEntry}(r:dh p P a v):dh p P' a v:=
 dh.rec (motive_1:=λa v ω=>RepV p P' a v) (motive_2:=λa v ω=>RepL p P' a v) (motive_3:=λa v ω=>bv p P' a v) (motive_4:=λa v ω=>dh p P' a v) .int .str .raw (λe ω r=> .tup (h _ _ e) r) (λe ω r=> .lst (h _ _ e) r) (λe hs ω r=> .ca (h _ _ e) hs r) (λe e' ω r=> .ins (h _ _ e) (h _ _ e') r) (λe=> .obj (h _ _ e)) (λe e' hs ω r=> .view (h _ _ e) (h _ _ e') hs r) .nil (λω ω x r=> .cons x r) .nil (λω ω ω k v r=> .cons k v r) .nil (λω ω v r=> .cons v r) r
theorem RepL.ind{p:bg}{P:PM}{M: ∀l vs,RepL p P l vs->Prop}(h0:M [] [] .nil)(h1: ∀{a v l vs} (h:RepV p P a v) (r:RepL p P l vs),M l vs r->M (a::l) (v::vs) (.cons h r)){l:ae AV}{vs:ae Value}(r:RepL p P l vs):M l vs r:=by
 refine RepL.rec (motive_1:=λω ω ω=>True) (motive_2:=M) (motive_3:=λω ω ω=>True) (motive_4:=λω ω ω=>True) ?_ ?_ ?_ ?_ ?_ ?_ ?_ ?_ ?_ h0 (λh r ω i=>h1 h r i) ?_ ?_ ?_ ?_ r<;>intros<;>trivial
theorem bv.ind{p:bg}{P:PM}{M: ∀l es,bv p P l es->Prop}(h0:M [] [] .nil)(h1: ∀{k b kv v l es} (h:RepV p P k kv) (h':RepV p P b v) (r:bv p P l es),M l es r->M ((k,b)::l) (⟨gj p k,kv,v⟩::es) (.cons h h' r)){l:ae (AV×AV)}{es:ae DictEntry}(r:bv p P l es):M l es r:=by
 refine bv.rec (motive_1:=λω ω ω=>True) (motive_2:=λω ω ω=>True) (motive_3:=M) (motive_4:=λω ω ω=>True) ?_ ?_ ?_ ?_ ?_ ?_ ?_ ?_ ?_ ?_ ?_ h0 (λh k r ω ω i=>h1 h k r i) ?_ ?_ r<;>intros<;>trivial
theorem dh.ind{p:bg}{P:PM}{M: ∀l es,dh p P l es->Prop}(h0:M [] [] .nil)(h1: ∀{k t b v l es} (h:RepV p P b v) (r:dh p P l es),M l es r->M ((k,b)::l) (⟨lh p k,.str k t,v⟩::es) (.cons h r)){l:ae (Str×AV)}{es:ae DictEntry}(r:dh p P l es):M l es r:=by
 refine dh.rec (motive_1:=λω ω ω=>True) (motive_2:=λω ω ω=>True) (motive_3:=λω ω ω=>True) (motive_4:=M) ?_ ?_ ?_ ?_ ?_ ?_ ?_ ?_ ?_ ?_ ?_ ?_ ?_ h0 (λh r ω i=>h1 h r i) r<;>intros<;>trivial
theorem RepV.intE{p:bg}{P:PM}{i:aj}{motive: ∀v,RepV p P (.int i) v->Prop}(int: ∀t,motive (.int i t) (.int i t)){v:Value}(x:RepV p P (.int i) v):motive v x:=by cases x with |int _ a1=>exact int a1
theorem RepV.strE{p:bg}{P:PM}{i:Str}{motive: ∀v,RepV p P (.str i) v->Prop}(str: ∀t,motive (.str i t) (.str i t)){v:Value}(x:RepV p P (.str i) v):motive v x:=by cases x with |str _ a1=>exact str a1
theorem RepV.rawE{p:bg}{P:PM}{u:Value}{motive: ∀v,RepV p P (.raw u) v->Prop}(raw:motive u (.raw u)){v:Value}(x:RepV p P (.raw u) v):motive v x:=by cases x with |raw=>exact raw
theorem RepV.tupE{p:bg}{P:PM}{l:ae AV}{motive: ∀v,RepV p P (.tup l) v->Prop}(tup: ∀{a items n} h r,motive (.ref a) (.tup (a:=a) (items:=items) (n:=n) h r)){v:Value}(x:RepV p P (.tup l) v):motive v x:=by cases x with |tup a1 b1=>exact tup a1 b1
theorem RepV.objE{p:bg}{P:PM}{x C dx:Addr}{motive: ∀v,RepV p P (.obj x C dx) v->Prop}(obj: ∀hx,motive (.ref x) (.obj hx)){v:Value}(y:RepV p P (.obj x C dx) v):motive v y:=by cases y with |obj a1=>exact obj a1
theorem RepV.vJ{p:bg}{P:PM}{l:ae AV}{motive: ∀v,RepV p P (.lst l) v->Prop}(lst: ∀{a items n} h r,motive (.ref a) (.lst (a:=a) (items:=items) (n:=n) h r)){v:Value}(x:RepV p P (.lst l) v):motive v x:=by cases x with |lst a1 b1=>exact lst a1 b1
theorem RepV.Wn{p:bg}{P:PM}{l:ae (AV×AV)}{motive: ∀v,RepV p P (.ca l) v->Prop}(ca: ∀{a es n} h hs r,motive (.ref a) (.ca (a:=a) (es:=es) (n:=n) h hs r)){v:Value}(x:RepV p P (.ca l) v):motive v x:=by cases x with |ca a1 b1 c1=>exact ca a1 b1 c1
theorem RepL.nilE{p:bg}{P:PM}{motive: ∀v,RepL p P [] v->Prop}(nil:motive [] .nil){v:ae Value}(x:RepL p P [] v):motive v x:=by cases x with |nil=>exact nil
theorem RepL.consE{p:bg}{P:PM}{a:AV}{l:ae AV}{motive: ∀v,RepL p P (a::l) v->Prop}(cons: ∀{v vs} h r,motive (v::vs) (.cons h r)){v:ae Value}(x:RepL p P (a::l) v):motive v x:=by cases x with |cons a1 b1=>exact cons a1 b1
theorem RepL.length{p:bg}{P:PM}{a:ae AV}{v:ae Value}(r:RepL p P a v):a.length=v.length:=by
 induction a generalizing v with
 |nil=>cases r;rfl
 |cons x l ih=>cases r with |cons h r=>exact congrArg (· +1) (ih r)
theorem bv.length{p:bg}{P:PM}{a:ae (AV×AV)}{v:ae DictEntry}(r:bv p P a v):a.length=v.length:=by
 induction a generalizing v with
 |nil=>cases r;rfl
 |cons x l ih=>cases r with |cons hk hv r=>exact congrArg (· +1) (ih r)
theorem RepL.append{p:bg}{P:PM}{a b:ae AV}{v u:ae Value}(r:RepL p P a v)(k:RepL p P b u):RepL p P (a++b) (v++u):=by
 induction a generalizing v with
 |nil=>cases r;exact k
 |cons x l ih=>cases r with |cons h r=>exact .cons h (ih r)
theorem RepL.get{p:bg}{P:PM}{a:ae AV}{v:ae Value}(r:RepL p P a v){i:Nat}{x:AV}(e:a[i]? =some x): ∃y,v[i]? =some y/\RepV p P x y:=by
 induction a generalizing v i with
 |nil=>cases e
 |cons b l ih=>cases r with |cons h r=>cases i with
  |zero=>cases e;exact⟨_,rfl,h⟩
  |succ i=>exact ih r e
theorem RepL.drop{p:bg}{P:PM}{a:ae AV}{v:ae Value}(r:RepL p P a v)(n:Nat):RepL p P (a.drop n) (v.drop n):=by
 induction n generalizing a v with
 |zero=>exact r
 |succ n ih=>cases a with
  |nil=>cases r;exact .nil
  |cons b l=>cases r with |cons h r=>exact ih r
theorem RepL.take{p:bg}{P:PM}{a:ae AV}{v:ae Value}(r:RepL p P a v)(n:Nat):RepL p P (a.take n) (v.take n):=by
 induction n generalizing a v with
 |zero=>exact .nil
 |succ n ih=>cases a with
  |nil=>cases r;exact .nil
  |cons b l=>cases r with |cons h r=>exact .cons h (ih r)
noncomputable def cw(items:ay Value)(n:Nat):Obj:=⟨.type "list",none,.seq items n,#[]⟩
noncomputable def dE(items:ay Value)(n:Nat):Obj:=⟨.type "tuple",none,.seq items n,#[]⟩
noncomputable def bZ(es:ay DictEntry)(n:Nat):Obj:=⟨.type "dict",none,.dict es n,#[]⟩
noncomputable def eS(es:ay (aj×Value))(n:Nat)(t:SetTable):Obj:=⟨.type "set",none,.set es n t,#[]⟩
structure eN(t:SetTable)(n:Nat):Prop where
 size:t.place.size=n
 zj:t.dummies= #[]
 sorted:t.place.toList.Pairwise (· < ·)
 inside: ∀j∈t.place.toList,j<=t.mask
 mask:t.mask=7\/t.mask=31\/t.mask=127
structure Ke(p:bg)(es:ay (aj×Value))(t:SetTable):Prop where
 tok:eN t es.size
 room:es.size*5<t.mask*3
 led:t.led= !(p.followText "set-order")
inductive RepO(p:bg)(P:PM):AO->Obj->Prop
 |list {l:ae AV} {items:ay Value} {n:Nat} (r:RepL p P l items.toList):RepO p P (.list l) (cw items n)
 |dict {l:ae (AV×AV)} {es:ay DictEntry} {n:Nat} (r:bv p P l es.toList):RepO p P (.dict l) (bZ es n)
 |attrs {l:ae (Str×AV)} {es:ay DictEntry} {n:Nat} (r:dh p P l es.toList):RepO p P (.attrs l) (bZ es n)
 |set {l:ae AV} {es:ay (aj×Value)} {n:Nat} {t:SetTable} (k:Ke p es t) (r:RepL p P l (es.toList.map (·.2))):RepO p P (.set l) (eS es n t)
 |raw (o:Obj):RepO p P (.raw o) o
theorem RepO.mono{p:bg}{P P':PM}(h:P.le P'){a:AO}{o:Obj}(r:RepO p P a o):RepO p P' a o:=
 RepO.rec (motive:=λa o ω=>RepO p P' a o) (λr=> .list (RepL.mono h r)) (λr=> .dict (bv.mono h r)) (λr=> .attrs (dh.mono h r)) (λk r=> .set k (RepL.mono h r)) .raw r
theorem RepO.listE{p:bg}{P:PM}{l:ae AV}{motive: ∀v,RepO p P (.list l) v->Prop}(list: ∀{items n} r,motive (cw items n) (.list r)){v:Obj}(x:RepO p P (.list l) v):motive v x:=by cases x with |list a1=>exact list a1
theorem RepO.dictE{p:bg}{P:PM}{l:ae (AV×AV)}{motive: ∀v,RepO p P (.dict l) v->Prop}(dict: ∀{es n} r,motive (bZ es n) (.dict r)){v:Obj}(x:RepO p P (.dict l) v):motive v x:=by cases x with |dict a1=>exact dict a1
theorem RepO.attrsE{p:bg}{P:PM}{l:ae (Str×AV)}{motive: ∀v,RepO p P (.attrs l) v->Prop}(attrs: ∀{es n} r,motive (bZ es n) (.attrs r)){v:Obj}(x:RepO p P (.attrs l) v):motive v x:=by cases x with |attrs a1=>exact attrs a1
theorem RepO.rawE{p:bg}{P:PM}{o:Obj}{motive: ∀v,RepO p P (.raw o) v->Prop}(raw:motive o (.raw o)){v:Obj}(x:RepO p P (.raw o) v):motive v x:=by cases x with |raw=>exact raw
set_option genInjectivity false in
structure BF where
 prog:Program
 w:World
 gQ:Shared
 Wo:Obj
 aI:gQ.heap.get? 2=some Wo
structure gC(g:BF):Prop where
 K:(hd.heap_39 g.w.params).In g.gQ.heap
 top: ∃p loose mg mb,TopRead p loose mg mb g.gQ.heap
def qA(g:BF):Prop:= ∀(ns:ae aj) (v:Value),ns.length<=63->RepV g.w.params g.gQ.heap.get? (.lst (ns.map .int)) v->
 fX (model g.prog g.w) callerA (.call (.ref 719) ⟨[v],[]⟩) (λr s'=> ∃h t d,r= .ok (.ret (.bool true))/\s'={g.gQ with heap:=h,toks:=t,drawn:=d}/\ ∀a o,g.gQ.heap.get? a=some o->s'.heap.get? a=some o) g.gQ
theorem C6: ∃g,gC g/\(qA g-> ∀g',gC g'->qA g'):=by
 refine Classical.byCases (p:= ∃g,gC g/\ ¬qA g) (λ⟨g,h,k⟩=>⟨g,h,λl=>ax l k⟩) λn=>?_
 have w:World:=⟨λω ω=>0,{strHash:=λω=>0,shareClass:=λω=>0,mergeTok:=λt=>t,idOf:=λω=>0,idOfShared:=λω ω=>0,followText:=λω=>true,idOfImm:=λω=>0}⟩
 have L:=hd.left.behind (λs e=>xl_of s (Bool.and_eq_true_iff.mp e).1) (Bool.and_eq_true_iff.mp (Bool.and_eq_true_iff.mp hd.e5).1).1 w
 obtain⟨s',eX⟩:=L.1
 obtain⟨_,_,_,s,_,_,_,_,Gr,y⟩:=L.2 s' eX
 have KX:=kIn_of ((kHook hd.heap_39 hd.keep hd.keep_ok).of w s y)
 have e3:(hd.heap_39 w.params).lookup 2=some (hd.x2 w.params):=by kernel_rfl
 exact⟨⟨hd.pg,w,s,_,KX _ _ e3⟩,⟨KX,_,_,_,_,topRead_of Gr.T⟩,λω g' k=>Classical.byContradiction λz=>n ⟨g',k,z⟩⟩
@[irreducible] noncomputable def G:BF:=Classical.choose C6
theorem H:gC G:=by unfold G;exact(Classical.choose_spec C6).1
theorem Ui(l:qA G): ∀g,gC g->qA g:=(Classical.choose_spec C6).2 (by unfold G at l;exact l)
noncomputable abbrev KF:Frag:=hd.heap_39 G.w.params
structure bD(X P:PM)(σ:ah)(s:Shared):Prop where
 same: ∃h t d,s={G.gQ with heap:=h,toks:=t,drawn:=d}
 base: ∀a o,G.gQ.heap.get? a=some o->P a=some o
 x: ∀a o,X a=some o->s.heap.get? a=some o
 p: ∀a o,P a=some o->s.heap.get? a=some o
 st: ∀a ao,σ a=some ao-> ∃o,s.heap.get? a=some o/\RepO G.w.params P ao o
 off: ∀a,σ a≠none->X a=none/\P a=none
 xp: ∀a,X a≠none->P a=none
 ns: ∀a,σ a≠none->a≠1
section
variable{X P:PM}{σ:ah}{s:Shared}
theorem bD.keep(I:bD X P σ s)(a:Addr)(o:Obj)(e:G.gQ.heap.get? a=some o):s.heap.get? a=some o:=I.p a o (I.base a o e)
theorem bD.fresh(I:bD X P σ s):σ s.heap.objs.size=none/\X s.heap.objs.size=none/\P s.heap.objs.size=none:=by
 refine⟨?_,?_,?_⟩
 .cases e:σ s.heap.objs.size with
  |none=>rfl
  |some ao=>obtain⟨o,ho,_⟩:=I.st _ _ e;exact ax (Heap.lt_size ho) (Nat.lt_irrefl _)
 .cases e:X s.heap.objs.size with
  |none=>rfl
  |some o=>exact ax (Heap.lt_size (I.x _ _ e)) (Nat.lt_irrefl _)
 .cases e:P s.heap.objs.size with
  |none=>rfl
  |some o=>exact ax (Heap.lt_size (I.p _ _ e)) (Nat.lt_irrefl _)
theorem bD.Vm(I:bD X P σ s):s.heap.objs.size≠1:=by
 have:=Heap.lt_size (I.keep 2 _ G.aI)
 exact Nat.ne_of_gt (Nat.lt_trans (by decide) this)
theorem bD.grow(I:bD X P σ s){h':Heap}{t:Nat}(hk: ∀a o,s.heap.get? a=some o->h'.get? a=some o):bD X P σ {s with heap:=h',toks:=t}:=by
 obtain⟨⟨h,t',dr,rfl⟩,b,x,p,st,off,xp,ns⟩:=I
 exact⟨⟨h',t,dr,rfl⟩,b,λa o e=>hk a o (x a o e),λa o e=>hk a o (p a o e),λa ao e=>by obtain⟨o,ho,r⟩:=st a ao e;exact⟨o,hk a o ho,r⟩,off,xp,ns⟩
theorem bD.drew(I:bD X P σ s)(d:Drawn):bD X P σ {s with drawn:=d}:=by
 obtain⟨⟨h,t',dr,rfl⟩,b,x,p,st,off,xp,ns⟩:=I
 exact⟨⟨h,t',d,rfl⟩,b,x,p,st,off,xp,ns⟩
theorem bD.tok(I:bD X P σ s)(t:Nat):bD X P σ {s with toks:=t}:=I.grow (h':=s.heap) λω ω e=>e
set_option tactic.hygienic true in
theorem bD.alloc(I:bD X P σ s){h':Heap}{t:Nat}{a:Addr}{o:Obj}{ao:AO}(ha:a=s.heap.objs.size)(hk: ∀a o,s.heap.get? a=some o->h'.get? a=some o)(hn:h'.get? a=some o)(r:RepO G.w.params P ao o):
  bD X P (aA σ a ao) {s with heap:=h',toks:=t}:=by
 subst ha
 obtain⟨f1,f2,f3⟩:=I.fresh
 have J:=I.grow (t:=t) hk
 refine⟨J.same,J.base,J.x,J.p,λa Dx e=>?_,λa e=>?_,J.xp,λa e=>?_⟩
 .unfold aA at e
  split at e
  .rename_i q;subst q;cases e;exact⟨o,hn,r⟩
  .exact J.st a Dx e
 .unfold aA at e
  split at e
  .rename_i q;subst q;exact⟨f2,f3⟩
  .exact J.off a e
 .unfold aA at e
  split at e
  .rename_i q;exact q▸I.Vm
  .exact J.ns a e
noncomputable def jY(P:PM)(a:Addr)(o:Obj):PM:=λb=>if b=a then some o else P b
theorem iS(P:PM)(a:Addr)(o:Obj):jY P a o a=some o:=if_pos rfl
theorem lw(P:PM)(o:Obj){a b:Addr}(h:b≠a):jY P a o b=P b:=aK h
theorem oR{P:PM}{a:Addr}(o:Obj)(h:P a=none):P.le (jY P a o):=λb o' e=>(lw P o (a:=a) (b:=b) λq=>nos (h.symm.trans (q▸e))).trans e
theorem GD{P:PM}{a b:Addr}{o o':Obj}{R:Addr->Obj->Prop}(e:jY P a o b=some o')(h:R a o)(k:P b=some o'->R b o'):R b o':=by
 by_cases q:b=a
 .subst q;rw[iS] at e;cases e;exact h
 .rw[lw _ _ q] at e;exact k e
theorem bD.qB(I:bD X P σ s){a:Addr}{o:Obj}(h1:σ a=none)(h2:X a=none)(h3:P a=none)(ho:s.heap.get? a=some o):bD X (jY P a o) σ s:=
 have hle:=oR o h3
 ⟨I.same,λb o' e=>hle _ _ (I.base b o' e),I.x,λb o' e=>GD (R:=λb o'=>s.heap.get? b=some o') e ho (I.p b o'),λb ao e=>(I.st b ao e).imp λω x=>⟨x.1,x.2.mono hle⟩,
  λb e=>⟨(I.off b e).1,(lw P o (a:=a) (b:=b) λq=>e (q▸h1)).trans (I.off b e).2⟩,λb e=>(lw P o (a:=a) (b:=b) λq=>e (q▸h2)).trans (I.xp b e),I.ns⟩
theorem bD.frozen(I:bD X P σ s){h':Heap}{t:Nat}{a:Addr}{o:Obj}(ha:a=s.heap.objs.size)(hk: ∀a o,s.heap.get? a=some o->h'.get? a=some o)(hn:h'.get? a=some o){C:Prop}
  (k: ∀P',P.le P'->P' a=some o->(∀b,b≠a->P' b=P b)->bD X P' σ {s with heap:=h',toks:=t}->C):C:=by
 subst ha
 exact k _ (oR o I.fresh.2.2) (iS ..) (λb hb=>lw P o hb) ((I.grow hk).qB I.fresh.1 I.fresh.2.1 I.fresh.2.2 hn)
set_option tactic.hygienic true in
theorem bD.update(I:bD X P σ s){h':Heap}{t:Nat}{a:Addr}{o:Obj}{ao Ct:AO}(ha:σ a=some Ct)(hk: ∀b,b≠a->h'.get? b=s.heap.get? b)(hn:h'.get? a=some o)(r:RepO G.w.params P ao o):
  bD X P (aA σ a ao) {s with heap:=h',toks:=t}:=by
 obtain⟨⟨h,t',dr,rfl⟩,b,x,p,st,off,xp,ns⟩:=I
 have na:a≠1:=ns a (by rw[ha];exactλe=>nomatch e)
 obtain⟨o1,o2⟩:=off a (by rw[ha];exactλe=>nomatch e)
 have ne: ∀(Y:PM),Y a=none-> ∀c o',Y c=some o'->c≠a:=λY hY c o' e q=>by subst q;rw[hY] at e;cases e
 refine⟨⟨h',t,dr,rfl⟩,b,λc o' e=>(hk c (ne X o1 c o' e)).trans (x c o' e),λc o' e=>(hk c (ne P o2 c o' e)).trans (p c o' e),λc Dx e=>?_,λc e=>?_,xp,λc e=>?_⟩
 .unfold aA at e
  split at e
  .rename_i q;subst q;cases e;exact⟨o,hn,r⟩
  .rename_i q;obtain⟨o',ho,r'⟩:=st c Dx e;exact⟨o',(hk c q).trans ho,r'⟩
 .unfold aA at e
  split at e
  .rename_i q;subst q;exact⟨o1,o2⟩
  .exact off c e
 .unfold aA at e
  split at e
  .rename_i q;exact q▸na
  .exact ns c e
theorem bD.sub(I:bD X P σ s){σ':ah}(h: ∀a ao,σ' a=some ao->σ a=some ao):bD X P σ' s:=
 ⟨I.same,I.base,I.x,I.p,λa ao e=>I.st a ao (h a ao e),λa e=>by
  cases q:σ' a with
  |none=>exact ax q e
  |some ao=>exact I.off a (by rw[h a ao q];exactλz=>nomatch z),I.xp,λa e=>by
  cases q:σ' a with
  |none=>exact ax q e
  |some ao=>exact I.ns a (by rw[h a ao q];exactλz=>nomatch z)⟩
theorem Uj{σ:ah}{a b:Addr}{ao:AO}(h:fP σ a b=some ao):σ b=some ao:=by
 unfold fP at h;split at h;cases h;exact h
theorem bD.freeze(I:bD X P σ s){a:Addr}{ao:AO}(ha:σ a=some ao){C:Prop}(k: ∀o,P.le (jY P a o)->RepO G.w.params P ao o->bD X (jY P a o) (fP σ a) s->C):C:=by
 obtain⟨o,ho,r⟩:=I.st a ao ha
 have q:=I.off a (ha▸λe=>nomatch e)
 exact k o (oR o q.2) r ((I.sub λb x=>Uj).qB (Bp ..) q.1 q.2 ho)
theorem bD.less{X':PM}(I:bD X' P σ s)(h:X.le X'):bD X P σ s:=by
 have n: ∀a,X' a=none->X a=none:=λa e=>by
  cases q:X a with
  |none=>rfl
  |some o=>rw[h a o q] at e;cases e
 exact⟨I.same,I.base,λa o e=>I.x a o (h a o e),I.p,I.st,λa e=>⟨n a (I.off a e).1,(I.off a e).2⟩,λa e=>I.xp a λq=>e (n a q),I.ns⟩
end
def mf(p:bg)(P:PM)(a:aB AV)(v:aB Value):Prop:= ∀b,a=some b-> ∃u,v=some u/\RepV p P b u
theorem mf.mono{p:bg}{P P':PM}(h:P.le P'){a:aB AV}{v:aB Value}(r:mf p P a v):mf p P' a v:=λb e=>by
 obtain⟨u,hu,q⟩:=r b e;exact⟨u,hu,q.mono h⟩
noncomputable abbrev au:=Str->aB AV
noncomputable def fN(m:au)(x:Str)(a:AV):au:=λy=>if y=x then some a else m y
structure yH(p:bg)(af:Env)(m:au)(X P:PM)(σ:ah)(h:Heap):Prop where
 ns: ∃mc,h.Ns af.locals mc/\ ∀x,af.kindOf x=some .local->mf p P (m x) (mc x)
 mo:σ af.locals=none/\X af.locals=none/\P af.locals=none
 cell: ∀x c,af.cells.lookup x=some c->(∃v,h.IsCell c v/\(af.kindOf x≠some .local->mf p P (m x) v))/\c≠af.locals/\σ c=none/\P c=none
 own:af.func.isSome=true->(∀x c,af.cells.lookup x=some c->X c=none)/\ ∀x y c,af.cells.lookup x=some c->af.cells.lookup y=some c->x=y
structure At(af:Env)(m:au)(X P:PM)(σ:ah)(s:Shared):Prop where
 inv:bD X P σ s
 fr:yH G.w.params af m X P σ s.heap
section
variable{af:Env}{m:au}{X P:PM}{σ:ah}{s:Shared}
theorem Heap.IsCell.same{h h':Heap}{c:Addr}{v:aB Value}(x:h.IsCell c v)(e:h'.get? c=h.get? c):h'.IsCell c v:=by
 obtain⟨o,ho,d⟩:=x;exact⟨o,e.trans ho,d⟩
theorem Heap.Ns.same{h h':Heap}{c:Addr}{v}(x:h.Ns c v)(e:h'.get? c=h.get? c):h'.Ns c v:=by
 obtain⟨o,es,ep,ho,d⟩:=x;exact⟨o,es,ep,e.trans ho,d⟩
theorem Heap.IsCell.some{h:Heap}{c:Addr}{v:aB Value}(x:h.IsCell c v): ∃o,h.get? c=some o:=let⟨o,ho,_⟩:=x;⟨o,ho⟩
theorem Heap.Ns.some{h:Heap}{c:Addr}{v}(x:h.Ns c v): ∃o,h.get? c=some o:=let⟨o,_,_,ho,_⟩:=x;⟨o,ho⟩
theorem yH.step{p:bg}{h h':Heap}{X' P':PM}{σ':ah}(F:yH p af m X P σ h)(hP:P.le P')(hX: ∀a,X a=none->X' a=none)
  (e: ∀a o,(a=af.locals\/ ∃x,af.cells.lookup x=some a)->h.get? a=some o->h'.get? a=some o)
  (f_: ∀a o,(a=af.locals\/ ∃x,af.cells.lookup x=some a)->h.get? a=some o->σ a=none->P a=none->σ' a=none/\P' a=none):yH p af m X' P' σ' h':=by
 obtain⟨⟨mc,hn,hm⟩,no,cl,ow⟩:=F
 obtain⟨oL,hL⟩:=Heap.Ns.some hn
 have n':=f_ _ oL (.inl rfl) hL no.1 no.2.2
 refine⟨⟨mc,Heap.Ns.same hn ((e _ _ (.inl rfl) hL).trans hL.symm),λx hx=>(hm x hx).mono hP⟩,⟨n'.1,hX _ no.2.1,n'.2⟩,λx c hc=>?_,λhf=>?_⟩
 .obtain⟨⟨v,hv,r⟩,h1,h2,h3⟩:=cl x c hc
  obtain⟨o,ho⟩:=Heap.IsCell.some hv
  have c':=f_ c o (.inr ⟨x,hc⟩) ho h2 h3
  exact⟨⟨v,Heap.IsCell.same hv ((e _ _ (.inr ⟨x,hc⟩) ho).trans ho.symm),λq=>(r q).mono hP⟩,h1,c'⟩
 .exact⟨λx c hc=>hX c ((ow hf).1 x c hc),(ow hf).2⟩
theorem At.grow(T:At af m X P σ s){h':Heap}{t:Nat}(hk: ∀a o,s.heap.get? a=some o->h'.get? a=some o):At af m X P σ {s with heap:=h',toks:=t}:=
 ⟨T.inv.grow hk,T.fr.step (PM.le.refl P) (λω e=>e) (λa o ω e=>hk a o e) (λω ω ω ω a b=>⟨a,b⟩)⟩
theorem At.tok(T:At af m X P σ s)(t:Nat):At af m X P σ {s with toks:=t}:=T.grow (h':=s.heap) λω ω e=>e
theorem At.alloc(T:At af m X P σ s){h':Heap}{t:Nat}{a:Addr}{o:Obj}{ao:AO}(ha:a=s.heap.objs.size)(hk: ∀a o,s.heap.get? a=some o->h'.get? a=some o)(hn:h'.get? a=some o)(r:RepO G.w.params P ao o):
  At af m X P (aA σ a ao) {s with heap:=h',toks:=t}:=by
 refine⟨T.inv.alloc ha hk hn r,T.fr.step (PM.le.refl P) (λω e=>e) (λa o ω e=>hk a o e) (λb o' ω e h1 h2=>⟨?_,h2⟩)⟩
 rw[oQ];exact h1
 intro q
 rw[q,ha] at e
 exact ax (Heap.lt_size e) (Nat.lt_irrefl _)
theorem At.frozen(T:At af m X P σ s){h':Heap}{t:Nat}{a:Addr}{o:Obj}(ha:a=s.heap.objs.size)(hk: ∀a o,s.heap.get? a=some o->h'.get? a=some o)(hn:h'.get? a=some o)
  {C:Prop} (k: ∀P',P.le P'->P' a=some o->At af m X P' σ {s with heap:=h',toks:=t}->C):C:=by
 refine T.inv.frozen (t:=t) ha hk hn λP' hle e ne I=>k P' hle e ⟨I,T.fr.step hle (λω e=>e) (λa o ω e=>hk a o e) (λb o' ω e h1 h2=>⟨h1,(ne b ?_).trans h2⟩)⟩
 intro q
 rw[q,ha] at e
 exact ax (Heap.lt_size e) (Nat.lt_irrefl _)
theorem At.apart(T:At af m X P σ s){a:Addr}(ha:σ a≠none):a≠af.locals/\ ∀x,af.cells.lookup x≠some a:=
 ⟨λe=>ha (e▸T.fr.mo.1),λx e=>ha (T.fr.cell x a e).2.2.1⟩
theorem At.HN(T:At af m X P σ s){a:Addr}(ha:σ a≠none){b:Addr}(hb:b=af.locals\/ ∃x,af.cells.lookup x=some b):b≠a:=λq=>
 hb.elim (λe=>(T.apart ha).1 (q▸e)) λ⟨x,e⟩=>(T.apart ha).2 x (q▸e)
theorem At.update(T:At af m X P σ s){h':Heap}{t:Nat}{a:Addr}{o:Obj}{ao Ct:AO}(ha:σ a=some Ct)(hk: ∀b,b≠a->h'.get? b=s.heap.get? b)(hn:h'.get? a=some o)(r:RepO G.w.params P ao o):
  At af m X P (aA σ a ao) {s with heap:=h',toks:=t}:=by
 have ne: ∀b,(b=af.locals\/ ∃x,af.cells.lookup x=some b)->b≠a:=λb=>T.HN (ha▸λe=>nomatch e)
 exact⟨T.inv.update ha hk hn r,T.fr.step (PM.le.refl P) (λω e=>e) (λb o' hb e=>(hk b (ne b hb)).trans e) (λb o' hb e h1 h2=>⟨(oQ σ ao (ne b hb)).trans h1,h2⟩)⟩
theorem At.freeze(T:At af m X P σ s){a:Addr}{ao:AO}(ha:σ a=some ao){C:Prop}(k: ∀o,P.le (jY P a o)->RepO G.w.params P ao o->At af m X (jY P a o) (fP σ a) s->C):C:=
 T.inv.freeze ha λo hle r I=>k o hle r ⟨I,T.fr.step hle (λω e=>e) (λω ω ω e=>e) λb o' hb e h1 h2=>
  have q:=T.HN (a:=a) (ha▸λe=>nomatch e) hb
  ⟨(iY σ q).trans h1,(lw P o q).trans h2⟩⟩
theorem At.sub(T:At af m X P σ s){σ':ah}(h: ∀a ao,σ' a=some ao->σ a=some ao):At af m X P σ' s:=by
 refine⟨T.inv.sub h,T.fr.step (PM.le.refl P) (λω e=>e) (λω ω ω e=>e) (λb o hb e h1 h2=>⟨?_,h2⟩)⟩
 cases q:σ' b with
 |none=>rfl
 |some ao=>rw[h b ao q] at h1;cases h1
open Classical in
noncomputable def guard(af:Env)(h:Heap)(X:PM):PM:=λa=>if a=af.locals\/ ∃x,af.cells.lookup x=some a then h.get? a else X a
set_option tactic.hygienic true in
theorem At.guard(T:At af m X P σ s):bD (guard af s.heap X) P σ s:=by
 have I:=T.inv
 refine⟨I.same,I.base,λa o e=>?_,I.p,I.st,λa e=>⟨?_,(I.off a e).2⟩,λa e=>?_,I.ns⟩
 .unfold Mine.guard at e
  split at e
  .exact e
  .exact I.x a o e
 .unfold Mine.guard
  split
  .rename_i q
   obtain⟨d1,d2⟩:=T.apart e
   rcases q with q |⟨x,q⟩
   .exact ax q d1
   .exact ax q (d2 x)
  .exact(I.off a e).1
 .unfold Mine.guard at e
  split at e
  .rename_i q
   rcases q with q |⟨x,q⟩
   .exact q▸T.fr.mo.2.2
   .exact(T.fr.cell x a q).2.2.2
  .exact I.xp a e
theorem QR(T:At af m X P σ s):X.le (Mine.guard af s.heap X):=λa o e=>by
 unfold Mine.guard
 split
 .exact T.inv.x a o e
 .exact e
theorem At.back(T:At af m X P σ s){P':PM}{σ':ah}{s':Shared}(hP:P.le P')(I:bD (Mine.guard af s.heap X) P' σ' s'):At af m X P' σ' s':=by
 have g: ∀a o,(a=af.locals\/ ∃x,af.cells.lookup x=some a)->s.heap.get? a=some o->Mine.guard af s.heap X a=some o:=λa o ha e=>by
  unfold Mine.guard;rw[if_pos ha];exact e
 refine⟨I.less (QR T),T.fr.step hP (λω e=>e) (λa o ha e=>I.x a o (g a o ha e)) (λa o ha e ω ω=>?_)⟩
 have gg:=g a o ha e
 refine⟨?_,I.xp a (by rw[gg];exactλz=>nomatch z)⟩
 cases q:σ' a with
 |none=>rfl
 |some ao=>
  have:=(I.off a (by rw[q];exactλz=>nomatch z)).1
  rw[gg] at this;cases this
theorem cs_tf{C:Prop}(h:true=false):C:=nomatch h
theorem cs_ft{C:Prop}(h:false=true):C:=nomatch h
theorem cs_some{α:Type _}{a b:α}{C:Prop}(h:some a=some b)(k:a=b->C):C:=k (aB.some.inj h)
theorem cs_pair{α:Type _}{β:Type _}{a c:α}{b d:β}{C:Prop}(h:(a,b)=(c,d))(k:a=c->b=d->C):C:=k (congrArg Bo h) (congrArg xR h)
theorem cs_cons{α:Type _}{a c:α}{b d:ae α}{C:Prop}(h:a::b=c::d)(k:a=c->b=d->C):C:=k (eC h).1 (eC h).2
theorem cs_nc{α:Type _}{a:α}{b:ae α}{C:Prop}(h:[]=a::b):C:=nomatch h
theorem cs_cn{α:Type _}{a:α}{b:ae α}{C:Prop}(h:a::b=[]):C:=nomatch h
theorem cs_vref{a b:Addr}{C:Prop}(h:Value.ref a= .ref b)(k:a=b->C):C:=k (Value.ref.inj h)
theorem cs_raw{a b:Value}{C:Prop}(h:AV.raw a= .raw b)(k:a=b->C):C:=k (AV.raw.inj h)
theorem cs_tup{a b:ae AV}{C:Prop}(h:AV.tup a= .tup b)(k:a=b->C):C:=k (AV.tup.inj h)
theorem cs_int{a b:aj}{C:Prop}(h:AV.int a= .int b)(k:a=b->C):C:=k (AV.int.inj h)
theorem cs_str{a b:Str}{C:Prop}(h:AV.str a= .str b)(k:a=b->C):C:=k (AV.str.inj h)
structure cT(n:Nat)(A:bo):Prop where
 handled:A.handled=none
 depth:A.depth+n<=990
 units:A.units+n<=9000
theorem cT.less{n k:Nat}{A:bo}(R:cT n A)(h:k<=n):cT k A:=⟨R.handled,by have:=R.depth;lia,by have:=R.units;lia⟩
theorem cT.deeper{n:Nat}{A:bo}(R:cT (n+3) A)(af:Env):cT n (A.deeper af):=
 ⟨R.handled,by have:=R.depth;show A.depth+1+n<=_;lia,by have:=R.units;show A.units+3+n<=_;lia⟩
theorem cT.lt{n:Nat}{A:bo}(R:cT n A):A.depth<recursionLimit:=by have:=R.depth;unfold recursionLimit;lia
noncomputable abbrev GM:Model:=model G.prog G.w
inductive aC{α β:Type}(J:PM->ah->Shared->Prop)(P:PM)(rel:PM->β->α->Prop)(Q:β->ah->Prop)(v:α)(s':Shared):Prop
 |mk (P':PM) (σ':ah) (b:β) (hP:P.le P') (T:J P' σ' s') (r:rel P' b v) (q:Q b σ')
theorem aC.with{α β:Type}{J:PM->ah->Shared->Prop}{P:PM}{rel:PM->β->α->Prop}{Q:β->ah->Prop}{M:Model}{A:bo}{t:bw α}{E E':Value->Shared->Prop}{s:Shared}{R:α->Shared->Prop}
  (h:ai M A t (aC J P rel Q) E s) (k: ∀v s' P' σ' b,P.le P'->J P' σ' s'->rel P' b v->Q b σ'->R v s') (ke: ∀e s,E e s->E' e s:=by exactλω ω e=>e):ai M A t R E' s:=bT h (λv s' q=>by cases q;apply k<;>assumption) ke
theorem aC.lift{α β:Type}{J:PM->ah->Shared->Prop}{P P':PM}{rel:PM->β->α->Prop}{Q:β->ah->Prop}{M:Model}{A:bo}{t:bw α}{E:Value->Shared->Prop}{s:Shared}
  (hP:P.le P') (h:ai M A t (aC J P' rel Q) E s):ai M A t (aC J P rel Q) E s:=aC.with h λv s' pu σ' b tj T r q=>⟨pu,σ',b,hP.trans tj,T,r,q⟩
inductive Vn(X P:PM)(Q:AV->ah->Prop)(r:B_)(s':Shared):Prop
 |mk (P':PM) (σ':ah) (a:AV) (v:Value) (e:r= .ok (.ret v)) (hP:P.le P') (I:bD X P' σ' s') (ra:RepV G.w.params P' a v) (q:Q a σ')
def aQ(n:Nat)(af:Env)(e:Expr)(m:au)(σ:ah)(Q:AV->ah->Prop):Prop:=
 ∀A X P s,cT n A->At af m X P σ s->ai GM A (eval e af) (aC (At af m X) P (RepV G.w.params) Q) (λω ω=>False) s
def aT(n:Nat)(f:Value)(args:ae AV)(σ:ah)(Q:AV->ah->Prop):Prop:=
 ∀A X P s vs,cT n A->bD X P σ s->RepL G.w.params P args vs->fX GM A (.call f ⟨vs,[]⟩) (Vn X P Q) s
set_option genInjectivity false in
inductive AF where
 |next |brk |cont
 |ret (a:AV)
inductive vK(p:bg)(P:PM):AF->Flow->Prop
 |next:vK p P .next .next
 |brk:vK p P .brk .brk
 |cont:vK p P .cont .cont
 |ret {a:AV} {v:Value} (h:RepV p P a v):vK p P (.ret a) (.ret v)
inductive Cu(af:Env)(X P:PM)(Q:AF->au->ah->Prop)(f:Flow)(s':Shared):Prop
 |mk (m':au) (P':PM) (σ':ah) (a:AF) (hP:P.le P') (T:At af m' X P' σ' s') (r:vK G.w.params P' a f) (q:Q a m' σ')
inductive Cv(af:Env)(X P:PM)(Q:au->ah->Prop)(s':Shared):Prop
 |mk (m':au) (P':PM) (σ':ah) (hP:P.le P') (T:At af m' X P' σ' s') (q:Q m' σ')
def ch(n:Nat)(af:Env)(b:ae Stmt)(m:au)(σ:ah)(Q:AF->au->ah->Prop):Prop:=
 ∀A X P s,cT n A->At af m X P σ s->ai GM A (execs b af) (Cu af X P Q) (λω ω=>False) s
def jR(n:Nat)(af:Env)(b:Stmt)(m:au)(σ:ah)(Q:AF->au->ah->Prop):Prop:=
 ∀A X P s,cT n A->At af m X P σ s->ai GM A (exec b af) (Cu af X P Q) (λω ω=>False) s
end
variable{Q':AV->ah->Prop}{b a:AV}{β α:Type}{J:PM->ah->Shared->Prop}{P' iu:PM}{R:B_->Shared->Prop}{o:AO}{l l' L mg:ae AV}{p:bg}{v it:Value}{x name:Str}{k i j n ep mask js M:Nat}{r:ae (Nat×Nat×Nat)}{es be:ay (aj×Value)}{h h':Heap}{σ':ah}{vs:ae Value}{args ts:ae Expr}{pl:Env->bw Bool}{C dx:Addr}{E:Value->Shared->Prop}{names:ae Str}{B:ae (Str×Value)->(Str->aB Value)->Str->aB Value}{params:Arguments}{body:ae Stmt}{scope:Scope}{od:aB Addr}{qT:ay (aB Value)}{items:ay Value}{value slice:Expr}{Q:aB Value->Shared->Prop}{an:aG}{I:Nat->ae AV->ah->Prop}{tp:Pos}{la:ae Addr}{owner:ay (aB Nat)}{order:ay Nat}{hh:aj}{LP:ae AV->Prop}{ns:ae aj}{OP:ae AV->ae AV->Prop}{dz:ae (AV×AV)}{par:ae Nat}{bn:ae (ae Nat)}{aa:ae (Nat×(Addr×ae Nat))}
section
variable{n:Nat}{af:Env}{m:au}{X P:PM}{σ:ah}{s:Shared}{A:bo}{Q:AV->ah->Prop}
theorem gC.jZ(I:bD X P σ s):KF.In s.heap:=H.K.keeps I.keep
theorem aQ.mono{e:Expr}(h:aQ n af e m σ Q)(hq: ∀a σ',Q a σ'->Q' a σ'):aQ n af e m σ Q':=
 λA X P s hA T=>aC.with (h A X P s hA T) λv s' P' σ' b hP T' r q=>⟨P',σ',b,hP,T',r,hq _ _ q⟩
theorem ch.mono{b:ae Stmt}{Q Q':AF->au->ah->Prop}(h:ch n af b m σ Q)(hq: ∀a m' σ',Q a m' σ'->Q' a m' σ'):ch n af b m σ Q':=
 λA X P s hA T=>bT (h A X P s hA T) (λv s' ⟨m',P',σ',b,hP,T',r,q⟩=>⟨m',P',σ',b,hP,T',r,hq _ _ _ q⟩) λω ω e=>e
theorem aT.less{f:Value}{args:ae AV}{k:Nat}(h:aT k f args σ Q)(hk:k<=n):aT n f args σ Q:=λA X P s vs hA T=>h A X P s vs (hA.less hk) T
theorem aC.now{rel:PM->β->α->Prop}{Q:β->ah->Prop}{v:α}{b:β}(T:J P σ s)(r:rel P b v)(q:Q b σ):aC J P rel Q v s:=⟨P,σ,b,PM.le.refl P,T,r,q⟩
theorem aC.up{rel:PM->β->α->Prop}{Q:β->ah->Prop}{v:α}(hP:P.le P')(h:aC J P' rel Q v s):aC J P rel Q v s:=by
 obtain⟨pu,σ',b,tj,T,r,q⟩:=h;exact⟨pu,σ',b,hP.trans tj,T,r,q⟩
theorem aQ.run{e:Expr}{R:AV->ah->Prop}(h:aQ n af e m σ R)(hA:cT n A)(T:At af m X P σ s){k:Value->bw α}{Q:α->Shared->Prop}
  (c: ∀P' σ' a v s',P.le P'->At af m X P' σ' s'->RepV G.w.params P' a v->R a σ'->ai GM A (k v) Q (λω ω=>False) s'):
  ai GM A (eval e af>>=k) Q (λω ω=>False) s:=
 wb (aC.with (h A X P s hA T) λv s' P' σ' b hP T' r q=>c P' σ' b v s' hP T' r q)
theorem aQ.o9{e:Expr}{R:AV->ah->Prop}{held:ae Value}(h:aQ n af e m σ R)(hA:cT n A)(T:At af m X P σ s){k:Value->bw α}{Q:α->Shared->Prop}
  (c: ∀P' σ' a v s',P.le P'->At af m X P' σ' s'->RepV G.w.params P' a v->R a σ'->ai GM A (k v) Q (λω ω=>False) s'):
  ai GM A (holding held (eval e af)>>=k) Q (λω ω=>False) s:=
 wb (cq (aC.with (h A X P s hA T) λv s' P' σ' b hP T' r q=>c P' σ' b v s' hP T' r q))
def cD(n:Nat)(σ:ah)(t:PM->bw Value->Prop)(Q:AV->ah->Prop):Prop:=
 ∀af m A X P s c,cT n A->At af m X P σ s->t P c->ai GM A c (aC (At af m X) P (RepV G.w.params) Q) (λω ω=>False) s
noncomputable def K0(k:ScopeKind)(a:aB NameKind):aB NameKind:=match k with | .function=>a |_=>none
theorem Uk{k:ScopeKind}{a:aB NameKind}{b:NameKind}(h:some b=K0 k a):a=some b/\k= .function:=by
 cases k with
 |function=>exact⟨h.symm,rfl⟩
 |_=>cases h
noncomputable def zk(k:ScopeKind):Bool:=match k with | .function=>true |_=>false
theorem Cw{k:ScopeKind}(h:zk k=true):k= .function:=by
 cases k with
 |function=>rfl
 |_=>cases h
noncomputable def nk(o:aB NameKind)(l c:Bool):Bool:=match o with |some .local=>l |some .cell=>c |_=>false
theorem yI{o:aB NameKind}{l c:Bool}{p:Prop}(h:true=nk o l c)(a:o=some .local->true=l->p)(b:o=some .cell->true=c->p):p:=by
 cases o with
 |none=>cases h
 |some k=>cases k with
  |«local»=>exact a rfl h
  |cell=>exact b rfl h
  |_=>cases h
noncomputable def gk(o:aB NameKind):Bool:=match o with |some .globalImplicit=>true |_=>false
theorem Vo{o:aB NameKind}(h:gk o=true):o=some .globalImplicit:=by
 cases o with
 |none=>cases h
 |some k=>cases k with
  |globalImplicit=>rfl
  |_=>cases h
noncomputable def zm{α:Type}(o:aB (aB α)):Bool:=match o with |some none=>true |_=>false
theorem Cx{o:aB (aB α)}(h:zm o=true):o=some none:=by
 cases o with
 |none=>cases h
 |some k=>cases k with
  |none=>rfl
  |some k=>cases h
noncomputable def Dy(o:aB (aB Value))(f:Addr):Bool:=match o with |some (some (.ref g))=>g==f |_=>false
theorem Jp{o:aB (aB Value)}{f:Addr}(h:Dy o f=true):o=some (some (.ref f)):=by
 cases o with
 |none=>cases h
 |some k=>cases k with
  |none=>cases h
  |some v=>cases v with
   |ref g=>exact congrArg (λg=>some (some (Value.ref g))) (lZ h)
   |_=>cases h
noncomputable def Dz(v f:Value):Bool:=match v with | .builtin i=>(match f with | .builtin j=>i==j |_=>false) | .type i=>(match f with | .type j=>i==j |_=>false) |_=>false
theorem Jq{f:Value}(h:Dz v f=true):v=f/\((∃id,f= .builtin id)\/ ∃id,f= .type id):=by
 cases v with
 |builtin i=>cases f with
  |builtin j=>exact⟨congrArg Value.builtin (lZ h),.inl ⟨_,rfl⟩⟩
  |_=>cases h
 |type i=>cases f with
  |type j=>exact⟨congrArg Value.type (lZ h),.inr ⟨_,rfl⟩⟩
  |_=>cases h
 |_=>cases h
theorem BG{o:aB α}{p:α->Bool}(h:o.any p=true): ∃a,o=some a/\p a=true:=by
 cases o with
 |none=>cases h
 |some a=>exact⟨a,rfl,h⟩
noncomputable def fk(af:Env)(x:Str):aB NameKind:=K0 af.scope.kind (af.kindOf x)
theorem vh{k:NameKind}(h:some k=fk af x):af.kindOf x=some k/\af.scope.kind= .function:=Uk h
noncomputable def qU(af:Env)(x:Str):Bool:=nk (fk af x) true (af.cells.lookup x).isSome
noncomputable def XJ(af:Env)(x:Str):Bool:=nk (fk af x) true (af.func.isSome&&(af.cells.lookup x).isSome)
theorem e_nm{pos:Pos}(h:Q a σ)(hv:m x=some a:=by with_unfolding_all first |assumption |rfl)(hl:true=qU af x:=by with_unfolding_all rfl)(hd:(x==("__debug__":Str))=false:=by kernel_rfl):aQ n af (.Name x pos) m σ Q:=by
 intro A X P s hA T
 refine yI hl (λe ω=>?_) λe hl=>?_
 .obtain⟨hl,hk⟩:=vh e.symm
  obtain⟨mc,hn,hm⟩:=T.fr.ns
  obtain⟨u,hu,r⟩:=hm x hl a hv
  exact wpAny_Name (wpAny_loadName_local hk hl hn hu (aC.now T r h)) hd
 .obtain⟨tq,hk⟩:=vh e.symm
  obtain⟨c,hc⟩:=Na.mp hl.symm
  obtain⟨⟨v,hi,r⟩,_⟩:=T.fr.cell x c hc
  obtain⟨u,hu,r'⟩:=r (by rw[tq];decide) a hv
  subst hu
  exact wpAny_Name (wpAny_loadName_cell hk tq hc hi (aC.now T r' h)) hd
noncomputable def gB(af:Env)(x:Str):Bool:=gk (fk af x)&&af.globals==lX&&af.builtins==builtinsNs
theorem Jr(h:true=gB af x):af.kindOf x=some .globalImplicit/\af.scope.kind= .function/\af.globals=lX/\af.builtins=builtinsNs:=by
 unfold gB at h
 have h:=Bool.and_eq_true_iff.mp h.symm
 have h1:=Bool.and_eq_true_iff.mp h.1
 have e:=vh (Vo h1.1).symm
 exact⟨e.1,e.2,lZ h1.2,lZ h.2⟩
theorem uE{pos:Pos}(r:RepV G.w.params G.gQ.heap.get? a v)(h:Q a σ)(e:nsIn KF lX x=some (some v))(hl:true=gB af x)(hd:(x==("__debug__":Str))=false):aQ n af (.Name x pos) m σ Q:=by
 intro A X P s hA T
 obtain⟨hl,hk,hg,_⟩:=Jr hl
 obtain⟨p,loose,mg,mb,TT⟩:=H.top
 have g:=TT.keeps T.inv.keep
 exact NF hk hl (loadGlobal_global (hg▸g.g) (mg_of H.K TT.g e) (aC.now T (r.mono T.inv.base) h)) hd
noncomputable def zn(name:Str)(f:Value):Bool:=zm (nsIn KF lX name)&& !(name==("__name__":Str))&& !(name==("__debug__":Str))&&(O6 name).any λv=>Dz v f
theorem IB{f:Value}(h:zn name f=true):nsIn KF lX name=some none/\O6 name=some f/\name≠"__name__"/\(name==("__debug__":Str))=false/\((∃id,f= .builtin id)\/ ∃id,f= .type id):=by
 unfold zn at h
 have h:=Bool.and_eq_true_iff.mp h
 have h1:=Bool.and_eq_true_iff.mp h.1
 have h2:=Bool.and_eq_true_iff.mp h1.1
 obtain⟨v,e,h4⟩:=BG h.2
 have q:=Jq h4
 exact⟨Cx h2.1,e.trans (congrArg some q.1),pW.mp ((Bool.not_eq_true' _).mp h2.2),(Bool.not_eq_true' _).mp h1.2,q.2⟩
theorem ut{pos:Pos}(h:Q (.raw v) σ)(c:zn x v=true)(hl:true=gB af x):aQ n af (.Name x pos) m σ Q:=by
 intro A X P s hA T
 obtain⟨hl,hk,hg,hb⟩:=Jr hl
 obtain⟨e,hv,hn,hd,_⟩:=IB c
 obtain⟨p,loose,mg,mb,TT⟩:=H.top
 have g:=TT.keeps T.inv.keep
 exact NF hk hl (loadGlobal_builtin (hg▸g.g) (mg_none_of H.K TT.g e) (hb▸g.b) ((TT.builtins x hn).trans hv) (aC.now T (.raw v) h)) hd
theorem e_int{i:aj}{pos:Pos}(h:Q (.int i) σ):aQ n af (.Constant (.int i) k pos) m σ Q:=λω ω ω ω ω T=>NL (aC.now (T.tok _) (.int _ _) h)
theorem e_str{i:Str}{pos:Pos}(h:Q (.str i) σ):aQ n af (.Constant (.str i) k pos) m σ Q:=λω ω ω ω ω T=>Constant_str (aC.now (T.tok _) (.str _ _) h)
theorem e_bool{i:Bool}{pos:Pos}(h:Q (.raw (.bool i)) σ):aQ n af (.Constant (.bool i) k pos) m σ Q:=λω ω ω ω ω T=>aq (aC.now T (.raw _) h)
theorem e_none{pos:Pos}(h:Q (.raw .none) σ):aQ n af (.Constant .none k pos) m σ Q:=λω ω ω ω ω T=>aq (aC.now T (.raw _) h)
def my(op:Bn)(a b:AV):PM->bw Value->Prop:=λP t=> ∃u v,RepV G.w.params P a u/\RepV G.w.params P b v/\t=binaryOp op u v
abbrev XM(n:Nat)(op:Bn)(a:AV)(Q:AV->ah->Prop):AV->ah->Prop:=λb σ=>cD n σ (my op a b) Q
abbrev XN(n:Nat)(af:Env)(r:Expr)(m:au)(op:Bn)(Q:AV->ah->Prop):AV->ah->Prop:=λa σ=>aQ n af r m σ (XM n op a Q)
theorem bR{l r:Expr}{op:Bn}{pos:Pos}(h:aQ n af l m σ (XN n af r m op Q)):aQ n af (.BinOp l op r pos) m σ Q:=by
 intro A X P s hA T
 show ai _ _ (eval l af>>=λa=>holding [a] (eval r af)>>=λb=>iU pos>>=λω=>operate [a,b] (binaryOp op a b)) _ _ s
 refine h.run hA T λaR ap a v aH aJ aL bF aD=>?_
 refine aD.o9 hA aL λbA aO b u aV bm ba b_ aI=>?_
 refine wb (fi (FP (aC.lift (aJ.trans bm) (aI af m A X bA aV _ hA ba ⟨v,u,bF.mono bm,b_,rfl⟩))))
def K1(op:UnaryOp)(a:AV):PM->bw Value->Prop:=λP t=> ∃u,RepV G.w.params P a u/\t=unaryOp op u
abbrev XO(n:Nat)(op:UnaryOp)(Q:AV->ah->Prop):AV->ah->Prop:=λa σ=>cD n σ (K1 op a) Q
theorem Wp{r:Expr}{op:UnaryOp}{pos:Pos}(h:aQ n af r m σ (XO n op Q)):aQ n af (.UnaryOp op r pos) m σ Q:=by
 intro A X P s hA T
 show ai _ _ (eval r af>>=λa=>iU pos>>=λω=>holding [a] (unaryOp op a)) _ _ s
 refine h.run hA T λaR ap a v aH aJ aL bF aD=>?_
 exact wb (fi (cq (aC.lift aJ (aD af m A X aR aH _ hA aL ⟨v,bF,rfl⟩))))
def fv(n:Nat)(af:Env)(e:Expr)(m:au)(σ:ah)(Q:Bool->ah->Prop):Prop:=
 ∀A X P s,cT n A->At af m X P σ s->ai GM A (isTrue e af (eval e af)) (aC (At af m X) P (λω b v=>b=v) Q) (λω ω=>False) s
theorem fv.mono{e:Expr}{Q Q':Bool->ah->Prop}(h:fv n af e m σ Q)(hq: ∀a σ',Q a σ'->Q' a σ'):fv n af e m σ Q':=
 λA X P s hA T=>aC.with (h A X P s hA T) λv s' P' σ' b hP T' r q=>⟨P',σ',b,hP,T',r,hq _ _ q⟩
theorem fv.run{e:Expr}{R:Bool->ah->Prop}(h:fv n af e m σ R)(hA:cT n A)(T:At af m X P σ s){k:Bool->bw α}{Q:α->Shared->Prop}
  (c: ∀P' σ' a s',P.le P'->At af m X P' σ' s'->R a σ'->ai GM A (k a) Q (λω ω=>False) s'):
  ai GM A (isTrue e af (eval e af)>>=k) Q (λω ω=>False) s:=
 wb (aC.with (h A X P s hA T) λv s' P' σ' b hP T' r q=>by cases r;exact c P' σ' _ s' hP T' q)
abbrev XP(n:Nat)(af:Env)(b o:Expr)(m:au)(Q:AV->ah->Prop):Bool->ah->Prop:=λc σ=>if c then aQ n af b m σ Q else aQ n af o m σ Q
theorem oH{t b o:Expr}{pos:Pos}(h:fv n af t m σ (XP n af b o m Q)):aQ n af (.IfExp t b o pos) m σ Q:=by
 intro A X P s hA T
 show ai _ _ (isTrue t af (eval t af)>>=λc=>if c then eval b af else eval o af) _ _ s
 refine h.run hA T λaR ap c aH aJ aL aD=>?_
 cases c with
 |true=>exact aC.lift aJ (aD A X aR aH hA aL)
 |false=>exact aC.lift aJ (aD A X aR aH hA aL)
abbrev XQ(Q:Bool->ah->Prop):Bool->ah->Prop:=λc σ=>Q (!c) σ
theorem yJ{r:Expr}{pos:Pos}{Q:Bool->ah->Prop}(h:fv n af r m σ (XQ Q)):fv n af (.UnaryOp .Not r pos) m σ Q:=by
 intro A X P s hA T
 show ai _ _ (isTrue r af (eval r af)>>=λc=>pure (!c)) _ _ s
 exact h.run hA T λaR ap c aH aJ aL aD=>aq (aC.up aJ (aC.now aL rfl aD))
def sZ(n:Nat)(af:Env)(op:BoolOp)(es:ae Expr)(m:au)(σ:ah)(Q:Bool->ah->Prop):Prop:=
 ∀A X P s,cT n A->At af m X P σ s->ai GM A (allTrue op es af) (aC (At af m X) P (λω b v=>b=v) Q) (λω ω=>False) s
theorem jJ{op:BoolOp}{Q:Bool->ah->Prop}(h:Q (op== .And) σ):sZ n af op [] m σ Q:=λω ω ω ω ω T=>aq (aC.now T rfl h)
abbrev XR(n:Nat)(af:Env)(r:ae Expr)(m:au)(Q:Bool->ah->Prop):Bool->ah->Prop:=λc σ=>if c then sZ n af .And r m σ Q else Q false σ
abbrev XS(n:Nat)(af:Env)(r:ae Expr)(m:au)(Q:Bool->ah->Prop):Bool->ah->Prop:=λc σ=>if c then Q true σ else sZ n af .Or r m σ Q
theorem kG{e:Expr}{r:ae Expr}{Q:Bool->ah->Prop}(h:fv n af e m σ (XR n af r m Q)):sZ n af .And (e::r) m σ Q:=by
 intro A X P s hA T
 rw[Oo]
 refine h.run hA T λaR ap c aH aJ aL aD=>?_
 cases c with
 |true=>exact aC.lift aJ (aD A X aR aH hA aL)
 |false=>exact aq (aC.up aJ (aC.now aL rfl aD))
theorem h9{e:Expr}{r:ae Expr}{Q:Bool->ah->Prop}(h:fv n af e m σ (XS n af r m Q)):sZ n af .Or (e::r) m σ Q:=by
 intro A X P s hA T
 rw[Oo]
 refine h.run hA T λaR ap c aH aJ aL aD=>?_
 cases c with
 |false=>exact aC.lift aJ (aD A X aR aH hA aL)
 |true=>exact aq (aC.up aJ (aC.now aL rfl aD))
theorem iZ{op:BoolOp}{es:ae Expr}{pos:Pos}{Q:Bool->ah->Prop}(h:sZ n af op es m σ Q):fv n af (.BoolOp op es pos) m σ Q:=h
def eU(op:CmpOp)(a b:AV):PM->bw Value->Prop:=λP t=> ∃u v,RepV G.w.params P a u/\RepV G.w.params P b v/\t=GC op u v
abbrev XT(n:Nat)(op:CmpOp)(a:AV)(Q:AV->ah->Prop):AV->ah->Prop:=λb σ=>cD n σ (eU op a b) Q
abbrev K2(n:Nat)(af:Env)(r:Expr)(m:au)(op:CmpOp)(Q:AV->ah->Prop):AV->ah->Prop:=λa σ=>aQ n af r m σ (XT n op a Q)
theorem vi{l r:Expr}{op:CmpOp}{pos:Pos}(hm:FV op r=false)(h:aQ n af l m σ (K2 n af r m op Q)):aQ n af (.Compare l [op] [r] pos) m σ Q:=by
 intro A X P s hA T
 refine wpAny_Compare1 ?_ hm
 refine aC.with (h A X P s hA T) λv aH aR ap a aJ aL bF aD=>?_
 refine aC.with (aD A X aR aH hA aL) λu aV bA aO b bm ba b_ aI=>?_
 exact aC.lift (aJ.trans bm) (aI af m A X bA aV _ hA ba ⟨v,u,bF.mono bm,b_,rfl⟩)
inductive vj(Q:Bool->ah->Prop)(c:AV)(σ:ah):Prop
 |mk (d:Bool) (e:c= .raw (.bool d)) (q:Q d σ)
theorem bu{l r:Expr}{op:CmpOp}{pos:Pos}{Q:Bool->ah->Prop}(hm:FV op r=false)(h:aQ n af l m σ (K2 n af r m op (vj Q))):fv n af (.Compare l [op] [r] pos) m σ Q:=by
 intro A X P s hA T
 refine wpAny_isTrue_Compare1 ?_ hm
 refine aC.with (h A X P s hA T) λv aH aR ap a aJ aL bF aD=>?_
 refine aC.with (aD A X aR aH hA aL) λu aV bA aO b bm ba b_ aI=>?_
 refine bT (aI af m A X bA aV _ hA ba ⟨v,u,bF.mono bm,b_,rfl⟩) (λc eJ q=>?_) λω ω e=>e
 obtain⟨eK,dZ,_,cX,c8,fO,d,rfl,q⟩:=q
 cases fO
 exact rR (aC.up ((aJ.trans bm).trans cX) (aC.now c8 rfl q))
theorem IC{l r r':Expr}{op qV:CmpOp}{pos:Pos}{Q:Bool->ah->Prop}(hm:FV qV r'=false)
  (h:aQ n af l m σ λa ap=>aQ n af r m ap λb aO=>cD n aO (eU op a b) (vj λd dZ=>if d then aQ n af r' m dZ λb' sO=>cD n sO (eU qV b b') (vj Q) else Q false dZ)):
  fv n af (.Compare l [op,qV] [r,r'] pos) m σ Q:=by
 intro A X P s hA T
 show ai _ _ (eval l af>>=λa=>testChain pos a [op,qV] [eval r af,markedBehindIn qV r' (eval r' af)]) _ _ s
 rw[markedBehindIn_of_false hm]
 refine h.run hA T λaR ap a v aH aJ aL bF aD=>?_
 show ai _ _ (holding [v] (eval r af)>>=λrv=>iU pos>>=λω=>holding [v,rv] (GC op v rv)>>=λc=>release [v,rv] [c]>>=λω=>holding [c,rv] (truthy c)>>=λb=>if b then testChain pos rv [qV] [eval r' af] else pure false) _ _ aH
 refine aD.o9 hA aL λbA aO b u aV bm ba b_ aI=>wb (fi (wb (cq ?_)))
 refine bT (aI af m A X bA aV _ hA ba ⟨v,u,bF.mono bm,b_,rfl⟩) (λc eJ q=>?_) λω ω e=>e
 obtain⟨eK,dZ,_,cX,c8,fO,d,rfl,q⟩:=q
 cases fO
 refine wb (AI (wb (cq (rR ?_))))
 cases d with
 |false=>exact aq (aC.up ((aJ.trans bm).trans cX) (aC.now c8 rfl q))
 |true=>
  show ai _ _ (holding [u] (eval r' af)>>=λrv=>iU pos>>=λω=>operate [u,rv] (GC qV u rv)>>=λc=>holding [c] (truthy c)) _ _ eJ
  refine aQ.o9 q hA c8 λmA sO b' u' gR jo gx Wq dO=>wb (fi (wb (FP ?_)))
  refine bT (dO af m A X mA gR _ hA gx ⟨u,u',(b_.mono cX).mono jo,Wq,rfl⟩) (λc o_ q=>?_) λω ω e=>e
  obtain⟨pc,oV,_,kK,i7,vL,d,rfl,q⟩:=q
  cases vL
  exact cq (rR (aC.up ((((aJ.trans bm).trans cX).trans jo).trans kK) (aC.now i7 rfl q)))
theorem mh{e:Expr}{Q:Bool->ah->Prop}(hi: ∀t,isTrue e af t=(t>>=λv=>iU e.pos>>=λω=>holding [v] (truthy v)))(h:aQ n af e m σ (vj Q)):fv n af e m σ Q:=by
 intro A X P s hA T
 rw[hi]
 refine h.run hA T λaR ap a v aH aJ aL bF aD=>?_
 obtain⟨d,rfl,q⟩:=aD
 cases bF
 exact wb (fi (cq (rR (aC.up aJ (aC.now aL rfl q)))))
example (pos x t):isTrue (.Name x pos) af t=(t>>=λv=>iU pos>>=λω=>holding [v] (truthy v)):=rfl
example (pos x a k t):isTrue (.Call x a k pos) af t=(t>>=λv=>iU pos>>=λω=>holding [v] (truthy v)):=rfl
inductive nA:ae Expr->Prop
 |nil:nA []
 |cons {e:Expr} {r:ae Expr} (h: ∀af,g_ (e::r) af=(false,eval e af)::g_ r af) (k:nA r):nA (e::r)
noncomputable def DA:Expr->Bool | .Starred _ _=>false |_=>true
theorem ID{e:Expr}{r:ae Expr}(h:DA e=true)(af:Env):g_ (e::r) af=(false,eval e af)::g_ r af:=by
 cases e with
 |Starred=>cases h
 |_=>rfl
theorem nA.of: ∀{es:ae Expr},es.all DA=true->nA es
 |[],_=> .nil
 |_::_,h=>have h:=Bool.and_eq_true_iff.mp h; .cons (ID h.1) (.of h.2)
def iG(n:Nat)(af:Env)(es:ae Expr)(m:au)(σ:ah)(Q:ae AV->ah->Prop):Prop:=
 nA es/\ ∀A X P s pos,cT n A->At af m X P σ s->ai GM A (spliced (jI pos (g_ es af))) (aC (At af m X) P (RepL G.w.params) Q) (λω ω=>False) s
theorem l_nil{Q:ae AV->ah->Prop}(h:Q [] σ):iG n af [] m σ Q:=⟨.nil,λω ω ω ω ω ω T=>aq (aC.now T .nil h)⟩
abbrev XU(a:AV)(Q:ae AV->ah->Prop):ae AV->ah->Prop:=λl σ=>Q (a::l) σ
abbrev XV(n:Nat)(af:Env)(r:ae Expr)(m:au)(Q:ae AV->ah->Prop):AV->ah->Prop:=λa σ=>iG n af r m σ (XU a Q)
theorem l_cons{e:Expr}{r:ae Expr}{Q:ae AV->ah->Prop}(h:aQ n af e m σ (XV n af r m Q))(hp:true=(e::r).all DA:=by with_unfolding_all rfl):iG n af (e::r) m σ Q:=by
 refine⟨.of hp.symm,λA X P s pos hA T=>?_⟩
 rw[ID (Bool.and_eq_true_iff.mp hp.symm).1]
 show ai _ _ (spliced ((false,eval e af)::jI pos (g_ r af))) _ _ s
 refine spliced_cons ?_
 refine aC.with (h A X P s hA T) λv aH aR ap a aJ aL bF aD=>?_
 refine aC.with (aD.2 A X aR aH pos hA aL) λvs aV bA aO l bm ba b_ aI=>?_
 exact aC.up (aJ.trans bm) (aC.now ba (.cons (bF.mono bm) b_) aI)
end
noncomputable def kN:ae (Str×AV)->Str->aB AV
 |[],_=>none
 |(y,b)::r,x=>if y=x then some b else kN r x
noncomputable def mB:ae (Str×AV)->Str->AV->ae (Str×AV)
 |[],x,a=>[(x,a)]
 |(y,b)::r,x,a=>if y=x then(y,a)::r else(y,b)::mB r x a
theorem A9(k x:Str)(t:el):(Value.str k t).isStr x=decide (k=x):=by
 unfold Value.isStr
 by_cases h:k=x
 .subst h;simp
 .simp[h]
theorem dh.noRef{P:PM}{l:ae (Str×AV)}{es:ae DictEntry}(r:dh p P l es):es.any (·.refKey)=false:=
 r.ind (M:=λω es ω=>es.any (·.refKey)=false) rfl λω ω i=>i
theorem QS{k:Str}{t:el}{h:aj}{es:ae DictEntry}(e:k=x):getL x (⟨h,.str k t,v⟩::es)=some (some v):=by
 unfold getL
 rw[Fc (by rw[A9];exact decide_eq_true e)]
theorem HO{k:Str}{t:el}{h:aj}{es:ae DictEntry}(e: ¬k=x):getL x (⟨h,.str k t,v⟩::es)=getL x es:=by
 unfold getL
 rw[Fb (by rw[A9,cu e];exact Bool.false_ne_true)];rfl
theorem dh.get{P:PM}{l:ae (Str×AV)}{es:ae DictEntry}(r:dh p P l es):kN l x=some a-> ∃v,getL x es=some (some v)/\RepV p P a v:=by
 induction r using dh.ind with
 |h0=>exact nofun
 | @h1 k t b v l es hv r ih=>
  intro e
  replace e:(if k=x then some b else kN l x)=some a:=e
  by_cases h:k=x
  .rw[if_pos h] at e
   exact⟨v,QS h,aB.some.inj e▸hv⟩
  .rw[aK h] at e
   rw[HO h]
   exact ih e
theorem dh.none{p:bg}{P:PM}{x:Str}{l:ae (Str×AV)}{es:ae DictEntry}(r:dh p P l es):kN l x=none->getL x es=some none:=by
 induction r using dh.ind with
 |h0=>exactλω=>rfl
 | @h1 k t b v l es hv r ih=>
  intro e
  replace e:(if k=x then some b else kN l x)= .none:=e
  by_cases h:k=x
  .rw[if_pos h] at e;cases e
  .rw[aK h] at e
   rw[HO h]
   exact ih e
theorem dh.put{P:PM}{t:el}(hv:RepV p P a v){l:ae (Str×AV)}{es:ae DictEntry}(r:dh p P l es):dh p P (mB l x a) (putL x (lh p x) (.str x t) v es):=by
 induction r using dh.ind with
 |h0=>exact .cons hv .nil
 | @h1 k t b v l es wh r ih=>
  show dh p P (if k=x then(k,a)::l else(k,b)::mB l x a) _
  unfold putL
  rw[A9]
  by_cases h:k=x
  .rw[if_pos h,decide_eq_true h,if_pos rfl]
   exact .cons hv r
  .rw[aK h,cu h,aK Bool.false_ne_true]
   exact .cons wh ih
theorem dh.length{p:bg}{P:PM}{l:ae (Str×AV)}{es:ae DictEntry}(r:dh p P l es):l.length=es.length:=
 r.ind (M:=λl es ω=>l.length=es.length) rfl λω ω i=>congrArg Nat.succ i
section
variable{n:Nat}{af:Env}{m:au}{X P:PM}{σ:ah}{s:Shared}{A:bo}{Q:AV->ah->Prop}
inductive Fz:AV->ah->AV->ah->Prop
 |list {σ:ah} {a:Addr} {l:ae AV} (h:σ a=some (.list l)):Fz (.raw (.ref a)) σ (.lst l) (fP σ a)
 |dict {σ:ah} {a:Addr} {l:ae (AV×AV)} (h:σ a=some (.dict l)):Fz (.raw (.ref a)) σ (.ca l) (fP σ a)
 |attrs {σ:ah} {x C dx:Addr} {l:ae (Str×AV)} (h:σ dx=some (.attrs l)):Fz (.obj x C dx) σ (.ins C l) (fP σ dx)
theorem At.fz(T:At af m X P σ s)(r:RepV G.w.params P a v)(f:Fz a σ b σ'): ∃P',P.le P'/\At af m X P' σ' s/\RepV G.w.params P' b v:=by
 cases f with
 |list h=>
  refine T.freeze h λo hP ro T'=>?_
  cases r;cases ro
  exact⟨_,hP,T',.lst (iS ..) (RepL.mono hP (by assumption))⟩
 |dict h=>
  refine T.freeze h λo hP ro T'=>?_
  cases r;cases ro
  exact⟨_,hP,T',.ca (iS ..) (T.inv.ns _ (by rw[h];exactλz=>nomatch z)) (bv.mono hP (by assumption))⟩
 |attrs h=>
  refine T.freeze h λo hP ro T'=>?_
  cases r;cases ro
  exact⟨_,hP,T',.ins (hP _ _ (by assumption)) (iS ..) (dh.mono hP (by assumption))⟩
theorem bD.fz(T:bD X P σ s)(r:RepV G.w.params P a v)(f:Fz a σ b σ'): ∃P',P.le P'/\bD X P' σ' s/\RepV G.w.params P' b v:=by
 cases f with
 |list h=>
  refine T.freeze h λo hP ro T'=>?_
  cases r;cases ro
  exact⟨_,hP,T',.lst (iS ..) (RepL.mono hP (by assumption))⟩
 |dict h=>
  refine T.freeze h λo hP ro T'=>?_
  cases r;cases ro
  exact⟨_,hP,T',.ca (iS ..) (T.ns _ (by rw[h];exactλz=>nomatch z)) (bv.mono hP (by assumption))⟩
 |attrs h=>
  refine T.freeze h λo hP ro T'=>?_
  cases r;cases ro
  exact⟨_,hP,T',.ins (hP _ _ (by assumption)) (iS ..) (dh.mono hP (by assumption))⟩
inductive DB(Q:AV->ah->Prop)(a:AV)(ap:ah):Prop
 |mk (b:AV) (aO:ah) (f:Fz a ap b aO) (q:Q b aO)
theorem nQ{e:Expr}(h:aQ n af e m σ (DB Q)):aQ n af e m σ Q:=by
 intro A X P s hA T
 refine aC.with (h A X P s hA T) λv aH aR ap a aJ aL bF pq=>?_
 obtain⟨b,aO,f,q⟩:=pq
 obtain⟨bA,bm,ba,b_⟩:=aL.fz bF f
 exact⟨bA,aO,b,aJ.trans bm,ba,b_,q⟩
theorem SL(T:At af m X P σ s)(r:RepL G.w.params P l vs)(hl:l.length<=sizeLine)(q:Q (.tup l) σ):ai GM A (Bj vs) (aC (At af m X) P (RepV G.w.params) Q) (λω ω=>False) s:=by
 refine iO ?_ (by show vs.toArray.size<=sizeLine;rw[rS,<- r.length];exact hl)
 refine T.frozen (t:=s.toks) (o:=dE vs.toArray 0) rfl (λa o e=>Heap.get?_push_of_some _ e) (Heap.get?_push_size _ rfl) λP' hP e T'=>?_
 exact⟨P',σ,.tup l,hP,T',.tup e (by simpa using r.mono hP),q⟩
theorem SM(T:At af m X P σ s)(r:RepL G.w.params P l vs)(hl:l.length<=sizeLine)(q:Q (.lst l) σ):ai GM A (qm vs) (aC (At af m X) P (RepV G.w.params) Q) (λω ω=>False) s:=by
 refine iO ?_ (by show vs.toArray.size<=sizeLine;rw[rS,<- r.length];exact hl)
 refine T.frozen (t:=s.toks) (o:=cw vs.toArray 0) rfl (λa o e=>Heap.get?_push_of_some _ e) (Heap.get?_push_size _ rfl) λP' hP e T'=>?_
 exact⟨P',σ,.lst l,hP,T',.lst e (by simpa using r.mono hP),q⟩
theorem QT(T:At af m X P σ s)(r:RepL G.w.params P l vs)(hl:l.length<=sizeLine)(q: ∀a,σ a=none->Q (.raw (.ref a)) (aA σ a (.list l))):ai GM A (qm vs) (aC (At af m X) P (RepV G.w.params) Q) (λω ω=>False) s:=by
 refine iO ?_ (by show vs.toArray.size<=sizeLine;rw[rS,<- r.length];exact hl)
 have T':=T.alloc (t:=s.toks) (ao:= .list l) (o:=cw vs.toArray 0) rfl (λa o e=>Heap.get?_push_of_some _ e) (Heap.get?_push_size _ rfl) (.list (by simpa using r))
 exact⟨P,_,_,PM.le.refl P,T',.raw _,q _ T.inv.fresh.1⟩
abbrev XW(Q:AV->ah->Prop):ae AV->ah->Prop:=λl σ=>l.length<=sizeLine/\Q (.tup l) σ
abbrev XX(Q:AV->ah->Prop):ae AV->ah->Prop:=λl σ=>l.length<=sizeLine/\Q (.lst l) σ
abbrev XY(Q:AV->ah->Prop):ae AV->ah->Prop:=λl σ=>l.length<=sizeLine/\ ∀a,σ a=none->Q (.raw (.ref a)) (aA σ a (.list l))
theorem e_tuple{es:ae Expr}{pos:Pos}(h:iG n af es m σ (XW Q)):aQ n af (.Tuple es k pos) m σ Q:=by
 intro A X P s hA T
 refine Tuple_ (aC.with (h.2 A X P s pos hA T) λvs aH aR ap l aJ aL bF pq=>?_)
 obtain⟨hl,q⟩:=pq
 exact aC.lift aJ (SL aL bF hl q)
theorem gm{es:ae Expr}{pos:Pos}(h:iG n af es m σ (XX Q)):aQ n af (.List es pos) m σ Q:=by
 intro A X P s hA T
 refine List_ (aC.with (h.2 A X P s pos hA T) λvs aH aR ap l aJ aL bF pq=>?_)
 obtain⟨hl,q⟩:=pq
 exact aC.lift aJ (SM aL bF hl q)
theorem sB{es:ae Expr}{pos:Pos}(h:iG n af es m σ (XY Q)):aQ n af (.List es pos) m σ Q:=by
 intro A X P s hA T
 refine List_ (aC.with (h.2 A X P s pos hA T) λvs aH aR ap l aJ aL bF pq=>?_)
 obtain⟨hl,q⟩:=pq
 exact aC.lift aJ (QT aL bF hl q)
def cK(n:Nat)(f:Value)(args:ae AV)(σ:ah)(Q:AV->ah->Prop):Prop:=
 ∀A X P s vs,cT n A->bD X P σ s->RepL G.w.params P args vs->ai GM A (call f vs []) (aC (bD X) P (RepV G.w.params) Q) (λω ω=>False) s
theorem cK.mono{f:Value}{args:ae AV}(h:cK n f args σ Q)(hq: ∀a σ',Q a σ'->Q' a σ'):cK n f args σ Q':=
 λA X P s vs hA T r=>aC.with (h A X P s vs hA T r) λv s' P' σ' b hP T' r q=>⟨P',σ',b,hP,T',r,hq _ _ q⟩
theorem aT.DC{f:Value}{args:ae AV}(h:aT n f args σ Q):cK n f args σ Q:=λA X P s vs hA T r=>
 wpAny_call (lV (h A X P s vs hA T r) λr s' ⟨P',σ',b,v,e,hP,T',r,q⟩=>by subst e;exact⟨P',σ',b,hP,T',r,q⟩)
def uZ(f:Value):Prop:= ∀(A:bo) (af:Env) (pos:Pos) (first:ae Value) (args:ae Expr) (Q:Value->Shared->Prop) (E:Value->Shared->Prop) (s:Shared),nA args->KF.In s.heap->
 ai GM A (spliced (jI pos (g_ args af))) (λvs aH=>KF.In aH.heap/\ai GM A (call f (first++vs)) Q E aH) E s->ai GM A (qh pos f first (jI pos (g_ args af)) []) Q E s
theorem nA.any(h:nA args)(af:Env)(pos:Pos):(jI pos (g_ args af)).any (·.1)=false:=by
 induction h with
 |nil=>rfl
 |cons h k ih=>rw[h];exact ih
theorem Bq{f:Value}(hk:keepIn KF f=true):uZ f:=by
 intro A af pos first args Q E s hp X h
 cases hp with
 |nil=>
  refine callWith_K0 X hk ?_
  have:=h
  exact(show ai GM A (spliced []) _ E s from this) |>λz=>by
   have z':=z
   unfold spliced at z'
   exactλΓ p pv=>(z' Γ p pv).2 Γ p pv
 |cons he k=>exact callWith_K X hk h (he af) (k.any af pos)
theorem dI{id:dK}:uZ (.builtin id):=by
 intro A af pos first args Q E s hp X h
 cases hp with
 |nil=>
  refine Ol rfl (PyProof.Rows.evalArgs_none ?_)
  have z:ai GM A (spliced []) _ E s:=h
  unfold spliced at z
  exactλΓ p pv=>(z Γ p pv).2 Γ p pv
 |cons he k=>
  rw[he] at h ⊢
  exact Ol (by show(false||(jI pos (g_ _ af)).any (·.1))=false;rw[k.any af pos];rfl) (OE (bT h (λω ω z=>z.2) λω ω e=>e))
theorem AT{id:dK}:uZ (.type id):=by
 intro A af pos first args Q E s hp X h
 cases hp with
 |nil=>
  refine PySem.callWith_type rfl (PyProof.Rows.evalArgs_none ?_)
  have z:ai GM A (spliced []) _ E s:=h
  unfold spliced at z
  exactλΓ p pv=>(z Γ p pv).2 Γ p pv
 |cons he k=>
  rw[he] at h ⊢
  exact PySem.callWith_type (by show(false||(jI pos (g_ _ af)).any (·.1))=false;rw[k.any af pos];rfl) (OE (bT h (λω ω z=>z.2) λω ω e=>e))
theorem At.callC(T:At af m X P σ s){f:Value}{args:ae AV}(hA:cT n A)(h:cK n f args σ Q)(r:RepL G.w.params P args vs):ai GM A (call f vs []) (aC (At af m X) P (RepV G.w.params) Q) (λω ω=>False) s:=
 aC.with (h A _ P s vs hA T.guard r) λv s' P' σ' a hP I ra q=>⟨P',σ',a,hP,T.back hP I,ra,q⟩
abbrev K8(n:Nat)(f:Value)(Q:AV->ah->Prop):ae AV->ah->Prop:=λl σ=>cK n f l σ Q
abbrev XZ(n:Nat)(f:Value)(a:AV)(Q:AV->ah->Prop):ae AV->ah->Prop:=λl σ=>cK n f (a::l) σ Q
inductive Vp(n:Nat)(af:Env)(args:ae Expr)(m:au)(Q:AV->ah->Prop)(a:AV)(ap:ah):Prop
 |mk (f:Value) (e:a= .raw f) (c:uZ f) (h:iG n af args m ap (K8 n f Q))
theorem IE{fe:Expr}{pos:Pos}(he: ∀af,eval (.Call fe args [] pos) af=(do qh pos (<- eval fe af) [] (jI pos (g_ args af)) (backToKw pos (F_ [] af))))
  (h:aQ n af fe m σ (Vp n af args m Q)):aQ n af (.Call fe args [] pos) m σ Q:=by
 intro A X P s hA T
 refine Call_ (aC.with (h A X P s hA T) λv aH aR ap a aJ aL bF pq=>?_) (he af)
 obtain⟨f,e,hc,aD⟩:=pq
 subst e;cases bF
 refine hc A af pos [] args _ _ aH aD.1 (gC.jZ aL.inv) (aC.with (aD.2 A X aR aH pos hA aL) λvs aV bA aO l bm ba b_ aI=>⟨gC.jZ ba.inv,?_⟩)
 exact aC.lift (aJ.trans bm) (ba.callC hA aI b_)
def kB(a:AV)(name:Str)(σ:ah)(f:Value):Prop:= ∀(X P:PM) (s:Shared) (v:Value) (A:bo) (pl:bw Bool) (Q:Value×ae Value->Shared->Prop),
 bD X P σ s->RepV G.w.params P a v->Q (f,[v]) s->ai GM A (xN v name pl) Q (λω ω=>False) s
inductive Vq(n:Nat)(af:Env)(name:Str)(args:ae Expr)(m:au)(Q:AV->ah->Prop)(a:AV)(ap:ah):Prop
 |mk (f:Value) (hm:kB a name ap f) (c:uZ f) (h:iG n af args m ap (XZ n f a Q))
theorem dF{o:Expr}{apos pos:Pos}
  (he: ∀af,eval (.Call (.Attribute o name apos) args [] pos) af=(do
   let ov <- eval o af
   iU apos.atName
   let(f,first) <- holding [ov] (xN ov name (pl af))
   qh pos f first (jI pos (g_ args af)) []))
  (h:aQ n af o m σ (Vq n af name args m Q)):aQ n af (.Call (.Attribute o name apos) args [] pos) m σ Q:=by
 intro A X P s hA T
 refine MethodCall_ (aC.with (h A X P s hA T) λv aH aR ap a aJ aL bF pq=>?_) (he af)
 obtain⟨f,hm,hc,aD⟩:=pq
 refine hm X aR aH v A (pl af) _ aL.inv bF ?_
 refine hc A af pos [v] args _ _ aH aD.1 (gC.jZ aL.inv) (aC.with (aD.2 A X aR aH pos hA aL) λvs aV bA aO l bm ba b_ aI=>⟨gC.jZ ba.inv,?_⟩)
 exact aC.lift (aJ.trans bm) (ba.callC hA aI (.cons (bF.mono bm) b_))
structure Cy(C:Addr)(name:Str)(attr:aB Value):Prop where
 get:Bm KF C name=true
 dict:A6 KF C=true
 find:sA KF (.ref C) name=some attr
 no:noGet KF attr=true
theorem Gj(name:Str)(es:ay DictEntry)(k:Nat):lookIn name (bZ es k)=getL name es.toList:=rfl
theorem BH{x:Addr}{es:ay DictEntry}(hx:h.get? x=some (l_ C dx))(hd:h.get? dx=some (bZ es k)):InstAt h x (l_ C dx) C (some (bZ es k)):=⟨hx,rfl,rfl,hd⟩
theorem Pr(r:RepV p P a v)(hb: ∀v,a= .raw v->xS v=true):xS v=true:=by
 cases r<;>first |rfl |exact hb _ rfl
inductive Holds(σ:ah):AV->Addr->ae (Str×AV)->Prop
 |ins {C:Addr} {l:ae (Str×AV)}:Holds σ (.ins C l) C l
 |obj {x C dx:Addr} {l:ae (Str×AV)} (h:σ dx=some (.attrs l)):Holds σ (.obj x C dx) C l
theorem Holds.inst{l:ae (Str×AV)}(h:Holds σ a C l)(I:bD X P σ s)(r:RepV G.w.params P a v): ∃x dx es k,v= .ref x/\InstAt s.heap x (l_ C dx) C (some (bZ es k))/\dh G.w.params P l es.toList:=by
 cases h with
 |ins=>cases r with |ins hx hd ra=>exact⟨_,_,_,_,rfl,BH (I.p _ _ hx) (I.p _ _ hd),ra⟩
 |obj h=>
  cases r using RepV.objE with
  |obj hx=>
   obtain⟨o,ho,ro⟩:=I.st _ _ h
   cases ro
   exact⟨_,_,_,_,rfl,BH (I.p _ _ hx) ho,by assumption⟩
theorem Ca{base:Expr}{o r:Value}{Q:Unit->Shared->Prop}(h:Q () s):ai GM A (OG base o r) Q E s:=wpAny_letTemporaryGo h
inductive Vr(name:Str)(Q:AV->ah->Prop)(a:AV)(ap:ah):Prop
 |mk (C:Addr) (l:ae (Str×AV)) (attr:aB Value) (b:AV) (hh:Holds ap a C l) (pl:Cy C name attr) (hg:kN l name=some b) (hr: ∀v,b= .raw v->xS v=true) (q:Q b ap)
theorem yl{o:Expr}{pos:Pos}(he: ∀af,eval (.Attribute o name pos) af=(eval o af>>=λv=>iU pos.atName>>=λω=>holding [v] (getAttr v name true)>>=λr=>OG o v r>>=λω=>pure r))
  (h:aQ n af o m σ (Vr name Q)):aQ n af (.Attribute o name pos) m σ Q:=by
 intro A X P s hA T
 rw[he]
 refine h.run hA T λaR ap a v aH aJ aL bF aD=>?_
 obtain⟨C,l,attr,b,hh,pl,hg,hr,q⟩:=aD
 obtain⟨x,dx,es,k,rfl,ia,ra⟩:=hh.inst aL.inv bF
 obtain⟨u,hu,ru⟩:=ra.get hg
 refine wb (fi (wb (cq ?_)))
 refine get_value (gC.jZ aL.inv) ia (F8 pl.get).1 (findObj_own pl.dict pl.find pl.no (by rw[Gj,hu])) (Pr ru hr) ?_
 exact wb (Ca (aq (aC.up aJ (aC.now (aL.tok _) ru q))))
structure u0(C:Addr)(name:Str)(f:Addr):Prop where
 get:Bm KF C name=true
 find:sA KF (.ref C) name=some (some (.ref f))
 fn:isFn KF (.ref f)=true
theorem GE{f:Addr}{l:ae (Str×AV)}(hh:Holds σ a C l)(hm:u0 C name f)(hl:kN l name=none):kB a name σ (.ref f):=by
 intro X P s v A pl Q I r q
 obtain⟨x,dx,es,k,rfl,ia,ra⟩:=hh.inst I r
 exact method_fn (gC.jZ I) ia (F8 hm.get).1 (F8 hm.get).2 hm.find (qa.mp hm.fn) (by show(lookIn name (bZ es k)).map _=_;rw[Gj,ra.none hl];rfl) q
end
section
variable{n:Nat}{af:Env}{m:au}{X P:PM}{σ:ah}{s:Shared}{A:bo}
def bM(af:Env)(X P:PM)(σ:ah)(fp:ae Addr):Prop:= ∀a∈fp,σ a=none/\X a=none/\P a=none/\a≠af.locals/\ ∀x,af.cells.lookup x≠some a
noncomputable def dD(fp:ae Addr)(h:Heap)(X:PM):PM:=λa=>if a∈fp then h.get? a else X a
theorem At.ext(T:At af m X P σ s){t:Nat}{fp:ae Addr}(O:bM af X P σ fp)(hk: ∀b o,b∉fp->s.heap.get? b=some o->h'.get? b=some o):At af m X P σ {s with heap:=h',toks:=t}:=by
 have I:=T.inv
 have nf: ∀(b:Addr),(σ b≠none\/X b≠none\/P b≠none\/b=af.locals\/ ∃x,af.cells.lookup x=some b)->b∉fp:=λb hb hm=>by
  obtain⟨h1,h2,h3,h4,h5⟩:=O b hm
  rcases hb with e |e |e |e |⟨x,e⟩
  .exact e h1
  .exact e h2
  .exact e h3
  .exact h4 e
  .exact h5 x e
 have so: ∀{α:Type} {o:α} {x:aB α},x=some o->x≠none:=λe q=>by rw[q] at e;cases e
 refine⟨⟨?_,I.base,λa o e=>hk a o (nf a (.inr (.inl (so e)))) (I.x a o e),λa o e=>hk a o (nf a (.inr (.inr (.inl (so e))))) (I.p a o e),λa ao e=>?_,I.off,I.xp,I.ns⟩,?_⟩
 .obtain⟨h,t',dr,rfl⟩:=I.same;exact⟨h',t,dr,rfl⟩
 .obtain⟨o,ho,r⟩:=I.st a ao e
  exact⟨o,hk a o (nf a (.inl (so e))) ho,r⟩
 .refine T.fr.step (PM.le.refl P) (λω e=>e) (λa o ha e=>hk a o (nf a ?_) e) (λω ω ω ω a b=>⟨a,b⟩)
  rcases ha with e |e
  .exact .inr (.inr (.inr (.inl e)))
  .exact .inr (.inr (.inr (.inr e)))
set_option tactic.hygienic true in
theorem At.dD(T:At af m X P σ s){fp:ae Addr}(O:bM af X P σ fp):At af m (dD fp s.heap X) P σ s:=by
 have I:=T.inv
 refine⟨⟨I.same,I.base,λa o e=>?_,I.p,I.st,λa e=>⟨?_,(I.off a e).2⟩,λa e=>?_,I.ns⟩,T.fr.mo |>λh=>⟨T.fr.ns,⟨h.1,?_,h.2.2⟩,T.fr.cell,λhf=>⟨λx c hc=>?_,(T.fr.own hf).2⟩⟩⟩
 .unfold Mine.dD at e
  split at e
  .exact e
  .exact I.x a o e
 .unfold Mine.dD
  rw[aK (λq=>e (O a q).1)]
  exact(I.off a e).1
 .unfold Mine.dD at e
  split at e
  .rename_i q;exact(O a q).2.2.1
  .exact I.xp a e
 .unfold Mine.dD
  rw[aK (λq=>(O _ q).2.2.2.1 rfl)]
  exact h.2.1
 .unfold Mine.dD
  rw[aK (λq=>(O _ q).2.2.2.2 x hc)]
  exact(T.fr.own hf).1 x c hc
theorem At.qe{m':au}{fp:ae Addr}(O:bM af X P σ fp)(hex: ∀a∈fp,∃o,h.get? a=some o)
  (T:At af m' (Mine.dD fp h X) P' σ' s):At af m' X P' σ' s/\(∀a∈fp,s.heap.get? a=h.get? a)/\bM af X P' σ' fp:=by
 have px: ∀a∈fp,Mine.dD fp h X a=h.get? a:=λa ha=>by unfold Mine.dD;rw[if_pos ha]
 have le:X.le (Mine.dD fp h X):=λa o e=>by
  unfold Mine.dD
  rw[aK (λq=>by rw[(O a q).2.1] at e;cases e)]
  exact e
 have nn: ∀a,Mine.dD fp h X a=none->X a=none:=λa e=>by
  cases q:X a with
  |none=>rfl
  |some o=>rw[le a o q] at e;cases e
 refine⟨⟨T.inv.less le,T.fr.step (PM.le.refl P') nn (λω ω ω e=>e) (λω ω ω ω a b=>⟨a,b⟩)⟩,λa ha=>?_,λa ha=>?_⟩
 .obtain⟨o,ho⟩:=hex a ha
  rw[ho];exact T.inv.x a o ((px a ha).trans ho)
 .obtain⟨o,ho⟩:=hex a ha
  have hx:Mine.dD fp h X a=some o:=(px a ha).trans ho
  obtain⟨h1,h2,h3,h4,h5⟩:=O a ha
  refine⟨?_,h2,T.inv.xp a (by rw[hx];exactλz=>nomatch z),h4,h5⟩
  cases q:σ' a with
  |none=>rfl
  |some ao=>have:=(T.inv.off a (by rw[q];exactλz=>nomatch z)).1;rw[hx] at this;cases this
theorem bM.fresh(T:At af m X P σ s):bM af X P σ [s.heap.objs.size]:=by
 intro a ha
 rw[aW] at ha
 subst ha
 obtain⟨f1,f2,f3⟩:=T.inv.fresh
 refine⟨f1,f2,f3,λe=>?_,λx e=>?_⟩
 .obtain⟨mc,hn,_⟩:=T.fr.ns
  obtain⟨o,ho⟩:=Heap.Ns.some hn
  rw[<- e] at ho
  exact ax (Heap.lt_size ho) (Nat.lt_irrefl _)
 .obtain⟨⟨v,hv,_⟩,_⟩:=T.fr.cell x _ e
  obtain⟨o,ho⟩:=Heap.IsCell.some hv
  exact ax (Heap.lt_size ho) (Nat.lt_irrefl _)
noncomputable def jF(a:aj):Nat->ae AV
 |0=>[]
 |k+1=> .int a::jF (a+1) k
inductive fQ(p:bg)(P:PM)(h:Heap):Value->ae Addr->ae AV->Prop
 |list {it l:Addr} {i k:Nat} {items:ay Value} {all:ae AV} (hi:h.IsListIter it l i) (hl:P l=some (cw items k)) (r:RepL p P all items.toList):fQ p P h (.ref it) [it] (all.drop i)
 |tuple {it l:Addr} {i k:Nat} {items:ay Value} {all:ae AV} (hi:h.IsTupleIter it l i) (hl:P l=some (dE items k)) (r:RepL p P all items.toList):fQ p P h (.ref it) [it] (all.drop i)
 |range {it:Addr} {x left:aj} (hi:IsRangeIter h it x left 1):fQ p P h (.ref it) [it] (jF x left.toNat)
theorem fQ.d_{P:PM}{fp:ae Addr}(I:fQ p P h it fp l): ∀a∈fp,∃o,h.get? a=some o:=by
 intro a ha
 cases I with
 |list hi _ _=>rw[aW] at ha;subst ha;exact⟨_,hi.choose_spec.1⟩
 |tuple hi _ _=>rw[aW] at ha;subst ha;exact⟨_,hi.choose_spec.1⟩
 |range hi=>rw[aW] at ha;subst ha;exact⟨_,hi⟩
theorem fQ.same{P:PM}{fp:ae Addr}(I:fQ p P h it fp l)(hP:P.le P')(e: ∀a∈fp,h'.get? a=h.get? a):fQ p P' h' it fp l:=by
 cases I with
 |list hi hl r=>exact .list (by obtain⟨o,ho,z⟩:=hi;exact⟨o,(e _ (.head _)).trans ho,z⟩) (hP _ _ hl) (r.mono hP)
 |tuple hi hl r=>exact .tuple (by obtain⟨o,ho,z⟩:=hi;exact⟨o,(e _ (.head _)).trans ho,z⟩) (hP _ _ hl) (r.mono hP)
 |range hi=>exact .range ((e _ (.head _)).trans hi)
theorem lc{l r:ae α}{a:α}(e:l.drop i=a::r):l[i]? =some a/\l.drop (i+1)=r:=by
 have h1:(l.drop i)[0]? =some a:=by rw[e];rfl
 rw[NV] at h1
 refine⟨by simpa using h1,?_⟩
 have:=congrArg (ae.drop 1) e
 simpa [ae.drop_drop,Nat.add_comm] using this
theorem qi{l:ae α}(e:l.drop i=[]):l[i]? =none:=by
 have h1:(l.drop i)[0]? =none:=by rw[e];rfl
 rw[NV] at h1
 simpa using h1
theorem RepL.sr{P:PM}{a:ae AV}{v:ae Value}(r:RepL p P a v)(e:a[i]? =none):v[i]? =none:=by
 rw[M0] at e ⊢;rw[<- r.length];exact e
theorem OV{x:aj}{r:ae AV}(e:jF x k=a::r): ∃j,k=j+1/\a= .int x/\r=jF (x+1) j:=by
 cases k with
 |zero=>cases e
 |succ j=>cases e;exact⟨j,rfl,rfl,rfl⟩
theorem HP(T:At af m X P σ s){fp:ae Addr}{r:ae AV}(hl:l=a::r)(O:bM af X P σ fp)(I:fQ G.w.params P s.heap it fp l){Q:aB Value->Shared->Prop}
  (h: ∀v P' s',P.le P'->At af m X P' σ s'->RepV G.w.params P' a v->bM af X P' σ fp->fQ G.w.params P' s'.heap it fp r->Q (some v) s'):ai GM A (cR it) Q E s:=by
 cases I with
 |list hi hp rr=>
  obtain⟨e1,e2⟩:=lc hl
  obtain⟨v,hv,rv⟩:=rr.get e1
  refine Nm hi ⟨_,T.inv.p _ _ hp,rfl,_,rfl⟩ (x:=v) (by rw[<- dR];exact hv) λh' dT hs=>?_
  exact h v P _ (PM.le.refl P) (T.ext (t:=s.toks) O λb o hb e=>(hs.2 b (λq=>hb (by rw[q];exact .head _))).trans e) rv O (e2▸ .list dT hp rr)
 |tuple hi hp rr=>
  obtain⟨e1,e2⟩:=lc hl
  obtain⟨v,hv,rv⟩:=rr.get e1
  refine Nj hi ⟨_,T.inv.p _ _ hp,rfl,_,rfl⟩ (x:=v) (by rw[<- dR];exact hv) λh' dT hs=>?_
  exact h v P _ (PM.le.refl P) (T.ext (t:=s.toks) O λb o hb e=>(hs.2 b (λq=>hb (by rw[q];exact .head _))).trans e) rv O (e2▸ .tuple dT hp rr)
 | @range it x left hi=>
  obtain⟨j,hj,rfl,e2⟩:=OV hl
  refine wpAny_pyNext_range_item hi (aj.lt_toNat.mp (hj▸Nat.succ_pos j)) λh' dT hs=>?_
  have e3:(left - 1).toNat=j:=(aj.pred_toNat left).trans (congrArg (· - 1) hj)
  exact h _ P _ (PM.le.refl P) (T.ext (t:=s.toks+1) O λb o hb e=>(hs.2 b (λq=>hb (by rw[q];exact .head _))).trans e) (.int _ _) O (by have:=fQ.range (p:=G.w.params) (P:=P) dT;rw[e3] at this;rw[e2];exact this)
theorem IF(hh:A.handled=none)(T:At af m X P σ s){fp:ae Addr}(hl:l=[])(O:bM af X P σ fp)(I:fQ G.w.params P s.heap it fp l){Q:aB Value->Shared->Prop}
  (h: ∀P' s',P.le P'->At af m X P' σ s'->Q none s'):ai GM A (cR it) Q E s:=by
 cases I with
 |list hi hp rr=>
  have e1:=qi hl
  refine Ny hh hi ⟨_,T.inv.p _ _ hp,rfl,_,rfl⟩ (by rw[<- dR];exact rr.sr e1) λh' hs=>?_
  exact h P _ (PM.le.refl P) (T.ext (t:=s.toks) O λb o hb e=>hs b o (λq=>hb (by rw[q];exact .head _)) e)
 |tuple hi hp rr=>
  have e1:=qi hl
  refine Nn hh hi ⟨_,T.inv.p _ _ hp,rfl,_,rfl⟩ (by rw[<- dR];exact rr.sr e1) λh' hs=>?_
  exact h P _ (PM.le.refl P) (T.ext (t:=s.toks) O λb o hb e=>hs b o (λq=>hb (by rw[q];exact .head _)) e)
 | @range it x left hi=>
  have:left.toNat=0:=by
   cases q:left.toNat with
   |zero=>rfl
   |succ j=>rw[q] at hl;cases hl
  refine wpAny_pyNext_range_end hh hi (by lia) λh' hs=>?_
  exact h P _ (PM.le.refl P) (T.ext (t:=s.toks) O λb o hb e=>hs b o (λq=>hb (by rw[q];exact .head _)) e)
theorem QU{fp:ae Addr}(I:fQ G.w.params P s.heap it fp l){Q:Value->Shared->Prop}(h:Q it s):ai GM A (hW it) Q E s:=by
 cases I with
 |list hi _ _=>exact wpAny_pyIter_listiter hi h
 |tuple hi _ _=>exact wpAny_pyIter_tupleiter hi h
 |range hi=>exact wpAny_pyIter_rangeiter hi h
inductive lD:AV->ae AV->Prop
 |tup (l:ae AV):lD (.tup l) l
 |lst (l:ae AV):lD (.lst l) l
theorem HQ(T:At af m X P σ s)(hs:lD a l)(r:RepV G.w.params P a v){Q:Value->Shared->Prop}
  (h: ∀it fp s',At af m X P σ s'->bM af X P σ fp->fQ G.w.params P s'.heap it fp l->Q it s'):ai GM A (hW v) Q E s:=by
 cases hs with
 |tup=>
  cases r using RepV.tupE with
  |tup hp rr=>
   refine t5 ⟨_,T.inv.p _ _ hp,rfl,_,rfl⟩ (h _ _ _ (T.grow (t:=s.toks) λa o e=>Heap.get?_push_of_some _ e) (bM.fresh T) ?_)
   have:=fQ.tuple (p:=G.w.params) (P:=P) (h:=s.heap.push {cls:= .type "tuple_iterator",data:= .fields #[.ref _,.int 0 0]}) (it:=s.heap.objs.size) (i:=0) ⟨_,Heap.get?_push_size _ rfl,rfl,rfl⟩ hp rr
   simpa using this
 |lst=>
  cases r using RepV.vJ with
  |lst hp rr=>
   refine xq ⟨_,T.inv.p _ _ hp,rfl,_,rfl⟩ (h _ _ _ (T.grow (t:=s.toks) λa o e=>Heap.get?_push_of_some _ e) (bM.fresh T) ?_)
   have:=fQ.list (p:=G.w.params) (P:=P) (h:=s.heap.push {cls:= .type "list_iterator",data:= .fields #[.ref _,.int 0 0]}) (it:=s.heap.objs.size) (i:=0) ⟨_,Heap.get?_push_size _ rfl,rfl,rfl⟩ hp rr
   simpa using this
theorem HR{E:Value->Shared->Prop}: ∀(l:ae AV) (k:Nat) {P:PM} {s:Shared} {it:Value} {fp:ae Addr} {Q:ae Value->Shared->Prop},k<=l.length->At af m X P σ s->bM af X P σ fp->fQ G.w.params P s.heap it fp l->
  (∀P' s' vs,P.le P'->At af m X P' σ s'->bM af X P' σ fp->fQ G.w.params P' s'.heap it fp (l.drop k)->RepL G.w.params P' (l.take k) vs->Q vs s')->ai GM A (draw it k) Q E s
 |l,0,P,s,it,fp,Q,_,T,O,I,h=>aq (h P s [] (PM.le.refl P) T O I .nil)
 |[],k+1,P,s,it,fp,Q,hk,T,O,I,h=>ax hk (by simp)
 |a::r,k+1,P,s,it,fp,Q,hk,T,O,I,h=>by
  show ai _ _ (cR it>>=_) Q E s
  refine wb (HP T rfl O I λv P' s' hP T' rv O' I'=>?_)
  refine wb (cq (HR r k (by simpa using hk) T' O' I' λpu nY vs tj X0 X1 wj X2=>aq ?_))
  exact h pu nY (v::vs) (hP.trans tj) X0 X1 wj (.cons (rv.mono tj) X2)
theorem Ps(I:bD X P σ s)(hs:lD a l)(r:RepV G.w.params P a v){Q:Bool->Shared->Prop}(h:Q false s):ai GM A (FA v) Q E s:=by
 cases hs with
 |tup=>
  cases r using RepV.tupE with
  |tup hp rr=>
   unfold FA
   refine wb (lU (Heap.IsTuple.typeIs ⟨_,I.p _ _ hp,rfl,_,rfl⟩) F.slot_tuple_iter.lookup ?_)
   exact aq h
 |lst=>
  cases r using RepV.vJ with
  |lst hp rr=>
   unfold FA
   refine wb (lU (Heap.IsList.typeIs ⟨_,I.p _ _ hp,rfl,_,rfl⟩) slot_list_iter.lookup ?_)
   exact aq h
theorem AN(hh:A.handled=none)(T:At af m X P σ s)(hs:lD a l)(r:RepV G.w.params P a v)(hk:l.length=k){Q:ae Value->Shared->Prop}
  (h: ∀P' s' vs,P.le P'->At af m X P' σ s'->RepL G.w.params P' l vs->Q vs s'):ai GM A (AS v k none) Q E s:=by
 unfold AS
 refine wb (Ps T.inv hs r (wp_if_no Bool.false_ne_true ?_))
 refine wb (cq (HQ T hs r λit fp aH aL C7 gS=>?_))
 refine wb (cq (HR l k (Nat.le_of_eq hk.symm) aL C7 gS λbA aV vs bm ba gy nR rv=>?_))
 have hlen:vs.length=k:=by rw[<- rv.length,jA,hk,Nat.min_self]
 have pe:l.take k=l:=rO (Nat.le_of_eq hk)
 have X3:l.drop k=[]:=Nl (Nat.le_of_eq hk)
 refine wp_if_no (by lia) ?_
 refine wb (cq (IF hh ba X3 gy nR λeK eJ cX c8=>wp_if_no Bool.false_ne_true ?_))
 exact aq (h eK eJ vs (bm.trans cX) c8 (by rw[pe] at rv;exact rv.mono cX))
theorem oB(T:At af m X P σ s)(r:RepV G.w.params P a v)(hl:af.kindOf x=some .local)(hk:af.scope.kind= .function){Q:Unit->Shared->Prop}
  (h: ∀s',At af (fN m x a) X P σ s'->Q () s'):ai GM A (storeName af x v) Q E s:=by
 obtain⟨mc,hn,hm⟩:=T.fr.ns
 refine wpAny_storeName_local hl hn (λh' pD hs=>h _ ?_) (by rw[hk];rfl)
 have O:bM {af with locals:=af.locals+1} X P σ []:=λa ha=>nomatch ha
 have I:=T.inv
 have so: ∀{o:Obj} {Y:PM} {b:Addr},Y b=some o->Y af.locals=none->b≠af.locals:=λe q z=>by subst z;rw[q] at e;cases e
 refine⟨⟨?_,I.base,λb o e=>(hs.2 b (so e T.fr.mo.2.1)).trans (I.x b o e),λb o e=>(hs.2 b (so e T.fr.mo.2.2)).trans (I.p b o e),λb ao e=>?_,I.off,I.xp,I.ns⟩,?_⟩
 .obtain⟨h0,t',dr,rfl⟩:=I.same;exact⟨h',_,dr,rfl⟩
 .obtain⟨o,ho,r⟩:=I.st b ao e
  refine⟨o,(hs.2 b (λz=>?_)).trans ho,r⟩
  subst z;rw[T.fr.mo.1] at e;cases e
 .refine⟨⟨_,pD,λy hy b hb=>?_⟩,T.fr.mo,λy c hc=>?_,T.fr.own⟩
  .unfold fN at hb
   by_cases q:y=x
   .rw[if_pos q] at hb ⊢;cases hb;exact⟨v,rfl,r⟩
   .rw[aK q] at hb ⊢;exact hm y hy b hb
  .obtain⟨⟨u,hu,ru⟩,h1,h2⟩:=T.fr.cell y c hc
   refine⟨⟨u,Heap.IsCell.same hu (hs.2 c h1),λq=>?_⟩,h1,h2⟩
   have ne:y≠x:=λz=>q (z▸hl)
   unfold fN
   rw[aK ne];exact ru q
theorem SO{c:Addr}(T:At af m X P σ s)(r:RepV G.w.params P a v)(hl:af.kindOf x=some .cell)(hk:af.scope.kind= .function)(hf:af.func.isSome=true)(hc:af.cells.lookup x=some c){Q:Unit->Shared->Prop}
  (h: ∀s',At af (fN m x a) X P σ s'->Q () s'):ai GM A (storeName af x v) Q E s:=by
 obtain⟨⟨aaf,Vs,_⟩,c1,c2,c3⟩:=T.fr.cell x c hc
 have c4:=(T.fr.own hf).1 x c hc
 refine wpAny_storeName_cell hk hl hc Vs (λh' pD hs=>h _ ?_)
 have I:=T.inv
 have so: ∀{o:Obj} {Y:PM} {b:Addr},Y b=some o->Y c=none->b≠c:=λe q z=>by subst z;rw[q] at e;cases e
 refine⟨⟨?_,I.base,λb o e=>(hs.2 b (so e c4)).trans (I.x b o e),λb o e=>(hs.2 b (so e c3)).trans (I.p b o e),λb ao e=>?_,I.off,I.xp,I.ns⟩,?_⟩
 .obtain⟨h0,t',dr,rfl⟩:=I.same;exact⟨h',_,dr,rfl⟩
 .obtain⟨o,ho,r⟩:=I.st b ao e
  refine⟨o,(hs.2 b (λz=>?_)).trans ho,r⟩
  subst z;rw[c2] at e;cases e
 .obtain⟨mc,hn,hm⟩:=T.fr.ns
  refine⟨⟨mc,Heap.Ns.same hn (hs.2 _ c1.symm),λy hy b hb=>?_⟩,T.fr.mo,λy d hd=>?_,T.fr.own⟩
  .have ne:y≠x:=λz=>by rw[z,hl] at hy;cases hy
   unfold fN at hb;rw[aK ne] at hb
   exact hm y hy b hb
  .by_cases q:y=x
   .subst q
    rw[hc] at hd;cases hd
    exact⟨⟨_,pD,λω b hb=>by unfold fN at hb;rw[if_pos rfl] at hb;cases hb;exact⟨v,rfl,r⟩⟩,c1,c2,c3⟩
   .obtain⟨⟨u,hu,ru⟩,h1,h2⟩:=T.fr.cell y d hd
    have dc:d≠c:=λz=>q ((T.fr.own hf).2 y x c (z▸hd) hc)
    refine⟨⟨u,Heap.IsCell.same hu (hs.2 d dc),λz=>?_⟩,h1,h2⟩
    unfold fN;rw[aK q];exact ru z
def fw(n:Nat)(af:Env)(t:Expr)(a:AV)(m:au)(σ:ah)(Q:au->ah->Prop):Prop:=
 ∀A X P s v,cT n A->At af m X P σ s->RepV G.w.params P a v->ai GM A (assign t af v) (λω=>Cv af X P Q) (λω ω=>False) s
variable{Q:au->ah->Prop}
theorem aN{pos:Pos}(h:let m':=fN m x a;Q m' σ)(hl:true=XJ af x:=by exact rfl):fw n af (.Name x pos) a m σ Q:=by
 intro A X P s v hA T r
 refine yI hl (λe ω=>?_) λe hl=>?_
 .obtain⟨hl,hk⟩:=vh e.symm
  exact Ax (oB T r hl hk λs' T'=>⟨_,P,σ,PM.le.refl P,T',h⟩)
 .obtain⟨tq,hk⟩:=vh e.symm
  have hl:=Bool.and_eq_true_iff.mp hl.symm
  obtain⟨c,hc⟩:=Na.mp hl.2
  exact Ax (SO T r tq hk hl.1 hc λs' T'=>⟨_,P,σ,PM.le.refl P,T',h⟩)
def y1(n:Nat)(af:Env)(ts:ae Expr)(l:ae AV)(m:au)(σ:ah)(Q:au->ah->Prop):Prop:=
 (lY ts af).length=l.length/\(lY ts af).findIdx? (·.1)=none/\
 ∀A X P s vs,cT n A->At af m X P σ s->RepL G.w.params P l vs->ai GM A (ue ((lY ts af).map (·.2)) vs) (λω=>Cv af X P Q) (λω ω=>False) s
theorem kH(h:Q m σ):y1 n af [] [] m σ Q:=⟨rfl,rfl,λA X P s vs ω T ω=>aq ⟨m,P,σ,PM.le.refl P,T,h⟩⟩
theorem eR{t:Expr}(h:fw n af t a m σ λm₁ ap=>y1 n af ts l m₁ ap Q)(he:lY (t::ts) af=(false,assign t af)::lY ts af:=by exact rfl)(hlen:(lY ts af).length=l.length:=by exact rfl)(zo:none=(lY ts af).findIdx? (·.1):=by exact rfl):y1 n af (t::ts) (a::l) m σ Q:=by
 refine⟨by rw[he];simp[hlen],by rw[he,xo];simp[zo.symm],λA X P s vs hA T r=>?_⟩
 cases r using RepL.consE with
 |cons r rs=>
  rw[he]
  show ai _ _ (holding _ (assign t af _)>>=λω=>ue ((lY ts af).map (·.2)) _) _ _ s
  refine wb (cq (bT (h A X P s _ hA T r) (λω aH pq=>?_) λω ω e=>e))
  obtain⟨m₁,aR,ap,aJ,aL,aD⟩:=pq
  exact bT (aD.2.2 A X aR aH _ hA aL (rs.mono aJ)) (λ_ aV ⟨m₂,bA,aO,bm,ba,aI⟩=>⟨m₂,bA,aO,aJ.trans bm,ba,aI⟩) λω ω e=>e
theorem kC{pos:Pos}(hs:lD a l)(h:y1 n af ts l m σ Q):fw n af (.Tuple ts k pos) a m σ Q:=by
 intro A X P s v hA T r
 rw[arm_assign_Tuple]
 refine wb (fi ?_)
 unfold unpack
 rw[h.2.1]
 refine wb (cq (AN hA.handled T hs r h.1.symm λaR aH vs aJ aL rs=>?_))
 exact bT (h.2.2 A X aR aH vs hA aL rs) (λ_ aV ⟨m₂,bA,aO,bm,ba,aI⟩=>⟨m₂,bA,aO,aJ.trans bm,ba,aI⟩) λω ω e=>e
structure y2(C:Addr)(name:Str):Prop where
 set:sA KF (.ref C) "__setattr__"=some (some (.builtin "object.__setattr__"))
 over:Gw KF C=true
 Vt:takerIn KF C name=some none
 dict:A6 KF C=true
theorem SP{K:Frag}{prog:Program}{w:World}{A:bo}{s:Shared}{x:Addr}{es:ay DictEntry}{tk:el}(XK:K.In s.heap)
  (I:InstAt s.heap x (l_ C dx) C (some (bZ es k))) (hp:Gw K C=true) (ht:takerIn K C name=some none) (hh:(clsIn K C).any (·.hasDict)=true)
  (hn:es.toList.any (·.refKey)=false) (hz:es.size<1000)
  (h: ∀h',h'.get? dx=some (bZ (putL name (lh w.params name) (.str name s.toks) v es.toList).toArray (putN name es.toList k))->(∀b,b≠dx->h'.get? b=s.heap.get? b)->R (.ok (.ret .none)) {s with heap:=h',toks:=s.toks+1}):
  fX (model prog w) A (.call (.builtin "object.__setattr__") ⟨[.ref x,.str name tk,v],[]⟩) R s:=by
 refine osa_open XK I hp ht λb=>?_
 obtain⟨cd,hc,iH⟩:=any_some hh
 have e:Obj.putName name (lh w.params name) (.str name s.toks) v (bZ es k)=bZ (putL name (lh w.params name) (.str name s.toks) v es.toList).toArray (putN name es.toList k):=by
  have e0:bZ es k=dictOf es.toList k:=rfl
  rw[e0,putName_dict];rfl
 have D:s.heap.get? dx=some (bZ es k):=I.dict
 have D':(s.heap.update dx (Obj.putName name (lh w.params name) (.str name s.toks) v)).get? dx=some (bZ (putL name (lh w.params name) (.str name s.toks) v es.toList).toArray (putN name es.toList k)):=by
  have:=Heap.get?_update_self (Obj.putName name (lh w.params name) (.str name s.toks) v) D (by rw[e];rfl)
  rw[this,e]
 obtain⟨hx,fR,pD,-⟩:=I
 refine cS (aq (cS (cS (OK hx (cS ((looks_clsIn XK hc).here ?_))))))
 rw[iH]
 refine aq (a:=some dx) ?_
 refine wb (aq (wb ?_))
 unfold nsSet
 refine cS (cS (pY (aq (cS (wpAny_mkText (cS (OK D ?_)))))))
 have c:(!es.any (·.key.isStr name)&&es.any (·.refKey))=false:=by
  rw[<- FC,<- FC,hn,Bool.and_false]
 dsimp only[bZ]
 rw[aRefKeyMayBeTheName_at,c]
 refine wpAny_updatePart D ?_
 have len:(putL name (lh w.params name) (.str name s.toks) v es.toList).length<=es.size+1:=by
  rw[<- ck]
  refine dP (es.toList) λl=>?_
  induction l with
  |nil=>simp[putL]
  |cons a r ih=>unfold putL;split<;>simp<;>lia
 refine wb (wpAny_lookBehind D' (by exact pastItsLine_dict (by rw[rS,eZ];lia)) ?_)
 exact aq (h _ D' λb hb=>Heap.get?_update_other _ _ (fm hb))
theorem QV{x:Addr}{l:ae (Str×AV)}(T:At af m X P σ s)(hx:P x=some (l_ C dx))(hd:σ dx=some (.attrs l))(S:y2 C name)(hz:l.length<1000)(r:RepV G.w.params P a v)
  {Q:Unit->Shared->Prop} (h: ∀s',At af m X P (aA σ dx (.attrs (mB l name a))) s'->Q () s'):ai GM A (setAttr (.ref x) name v) Q E s:=by
 obtain⟨o,ho,ro⟩:=T.inv.st _ _ hd
 cases ro with
 | @attrs _ es k ra=>
 have I:InstAt s.heap x (l_ C dx) C (some (bZ es k)):=BH (T.inv.p _ _ hx) ho
 have XK:=gC.jZ T.inv
 refine set_plain XK I S.set (SP (s:={s with toks:=s.toks+1}) XK I S.over S.Vt S.dict ra.noRef (by rw[<- ck,<- ra.length];exact hz) λh' e1 e2=>?_)
 exact h _ (T.update (t:=s.toks+1+1) hd e2 e1 (.attrs (by simpa using ra.put r)))
inductive Ul(name:Str)(a:AV)(Q:ah->Prop)(b:AV)(ap:ah):Prop
 |mk (x C dx:Addr) (l:ae (Str×AV)) (e:b= .obj x C dx) (h:ap dx=some (.attrs l)) (hs:y2 C name) (z:l.length<1000) (q:Q (aA ap dx (.attrs (mB l name a))))
theorem Um{o:Expr}{pos:Pos}(h:aQ n af o m σ (Ul name a (Q m))):fw n af (.Attribute o name pos) a m σ Q:=by
 intro A X P s v hA T r
 rw[arm_assign_Attribute]
 refine h.o9 hA T λaR ap b u aH aJ aL bF aD=>?_
 obtain⟨x,C,dx,l,rfl,hd,S,hz,q⟩:=aD
 cases bF using RepV.objE with
 |obj hx=>
 refine wb (fi (wb (cq (QV aL hx hd S hz (r.mono aJ) λaV ba=>?_))))
 exact AI ⟨m,aR,_,aJ,ba,q⟩
end
section
variable{n:Nat}{af:Env}{m:au}{X P:PM}{σ:ah}{s:Shared}{A:bo}{Q:AF->au->ah->Prop}
theorem BI{af:Env}: ∀e s',(λω ω=>False:Value->Shared->Prop) e s'->notedBy GM A af E e s':=λω ω h=>h.elim
theorem bE(h:Q .next m σ):ch n af [] m σ Q:=λA X P s ω T=>wpAny_execs_nil ⟨m,P,σ,.next,PM.le.refl P,T,.next,h⟩
theorem sC{st:Stmt}{r:ae Stmt}(h:jR n af st m σ λf m₁ ap=>match f with | .next=>ch n af r m₁ ap Q |f=>Q f m₁ ap):ch n af (st::r) m σ Q:=by
 intro A X P s hA T
 refine wpAny_execs_cons (bT (h A X P s hA T) (λf aH pq=>?_) λω ω e=>e)
 obtain⟨m₁,aR,ap,a,aJ,aL,bF,aD⟩:=pq
 cases bF with
 |next=>exact bT (aD A X aR aH hA aL) (λf aV ⟨m₂,bA,aO,a,bm,ba,b_,aI⟩=>⟨m₂,bA,aO,a,aJ.trans bm,ba,b_,aI⟩) λω ω e=>e
 |brk=>exact⟨m₁,aR,ap,_,aJ,aL,.brk,aD⟩
 |cont=>exact⟨m₁,aR,ap,_,aJ,aL,.cont,aD⟩
 |ret r=>exact⟨m₁,aR,ap,_,aJ,aL,.ret r,aD⟩
noncomputable def ym:AV->Prop
 | .int _=>True
 | .str _=>True
 | .raw v=> ∀a,v≠ .ref a
 |_=>False
theorem Un{e:Expr}{pos:Pos}(hi:interactive af=false)(hs:uw e none pos.line af=pure false)(h:aQ n af e m σ λa ap=>ym a/\Q .next m ap):jR n af (.Expr e pos) m σ Q:=by
 intro A X P s hA T
 refine wpAny_Expr ?_ hi hs
 refine aC.with (h A X P s hA T) λv aH aR ap a aJ aL bF aD=>?_
 have k:Cu af X P Q A8 aH:=⟨m,aR,ap,.next,aJ,aL,.next,aD.2⟩
 cases bF with
 |int i t=>exact k
 |str i t=>exact k
 |raw v=>
  cases v<;>first |exact k |exact ax rfl (aD.1 _)
 |tup _ _=>exact aD.1.elim
 |lst _ _=>exact aD.1.elim
 |ca _ _=>exact aD.1.elim
 |ins _ _ _=>exact aD.1.elim
 |obj _=>exact aD.1.elim
 |view _ _ _ _=>exact aD.1.elim
theorem Uo{pos:Pos}(h:Q .next m σ):jR n af (.Pass pos) m σ Q:=λA X P s ω T=>wpAny_Pass ⟨m,P,σ,.next,PM.le.refl P,T,.next,h⟩
theorem QW{e:Expr}{pos:Pos}(h:aQ n af e m σ λa ap=>Q (.ret a) m ap):jR n af (.Return (some e) pos) m σ Q:=by
 intro A X P s hA T
 exact wpAny_Return_some (aC.with (h A X P s hA T) λv aH aR ap a aJ aL bF aD=>⟨m,aR,ap,.ret a,aJ,aL,.ret bF,aD⟩)
theorem Kf{t:Expr}{b o:ae Stmt}{pos:Pos}(h:fv n af t m σ λc ap=>if c then ch n af b m ap Q else ch n af o m ap Q):jR n af (.If t b o pos) m σ Q:=by
 intro A X P s hA T
 refine wpAny_If (aC.with (h A X P s hA T) λc aH aR ap a aJ aL bF aD=>?_)
 subst bF
 cases a with
 |true=>exact bT (aD A X aR aH hA aL) (λf aV ⟨m₂,bA,aO,a,bm,ba,b_,aI⟩=>⟨m₂,bA,aO,a,aJ.trans bm,ba,b_,aI⟩) λω ω e=>e
 |false=>exact bT (aD A X aR aH hA aL) (λf aV ⟨m₂,bA,aO,a,bm,ba,b_,aI⟩=>⟨m₂,bA,aO,a,aJ.trans bm,ba,b_,aI⟩) λω ω e=>e
theorem QX{t e:Expr}{pos:Pos}(hs:xD [t] e pos.line af=pure false)(hw:xF [t] e af=pure none)(ht:lY [t] af=[(false,assign t af)])
  (h:aQ n af e m σ λa ap=>fw n af t a m ap λm₂ aO=>Q .next m₂ aO):jR n af (.Assign [t] e pos) m σ Q:=by
 intro A X P s hA T
 rw[FG,hs,hw,ht]
 refine cS (fi (cS (aq ?_)))
 rw[aK Bool.false_ne_true]
 refine h.run hA T λaR ap a v aH aJ aL bF aD=>?_
 refine wb (aq ?_)
 show ai _ _ (assign t af v>>=λω=>pure A8) _ _ aH
 exact wb (bT (aD A X aR aH v hA aL bF) (λ_ aV ⟨m₂,bA,aO,bm,ba,aI⟩=>aq ⟨m₂,bA,aO,.next,aJ.trans bm,ba,.next,aI⟩) λω ω e=>e)
inductive X4(Q:AV->AV->ah->Prop)(a:AV)(ap:ah):Prop
 |mk (b c:AV) (e:a= .tup [b,c]) (q:Q b c ap)
inductive X5(Q:AV->AV->AV->ah->Prop)(a:AV)(ap:ah):Prop
 |mk (b c d:AV) (e:a= .tup [b,c,d]) (q:Q b c d ap)
theorem sv{t e:Expr}{pos:Pos}{y:Str}(hs:xD [t] e pos.line af=pure false)(hw:xF [t] e af=pure (some [x,y]))
  (hx:af.kindOf x=some .local) (hy:af.kindOf y=some .local) (hk:af.scope.kind= .function)
  (h:aQ n af e m σ (X4 λb c ap=>Q .next (fN (fN m y c) x b) ap)):jR n af (.Assign [t] e pos) m σ Q:=by
 intro A X P s hA T
 rw[FG,hs,hw]
 refine cS (fi (cS (aq ?_)))
 rw[aK Bool.false_ne_true]
 refine h.run hA T λaR ap a v aH aJ aL bF aD=>?_
 obtain⟨b,c,rfl,q⟩:=aD
 refine wb (aq ?_)
 show ai _ _ (rule "assign.swapped-stores">>=λω=>AS v 2 none>>=λitems=>ue [λv=>xT af y v,λv=>xT af x v] items.reverse>>=λω=>pure A8) _ _ aH
 refine wb (fj (wb (AN hA.handled aL (.tup _) bF rfl λbA aV vs bm ba rs=>?_)))
 cases rs with
 |cons rb rs=>
 cases rs using RepL.consE with
 |cons rc rs=>
 cases rs
 show ai _ _ (ue _ [_,_]>>=_) _ _ aV
 refine wb (wb (cq (xB (oB ba rc hy hk λeJ c8=>?_))))
 refine wb (cq (xB (oB c8 rb hx hk λgR gx=>aq (aq ?_))))
 exact⟨_,bA,ap,.next,aJ.trans bm,gx,.next,q⟩
theorem SS{t e:Expr}{pos:Pos}{y z:Str}(hs:xD [t] e pos.line af=pure false)(hw:xF [t] e af=pure (some [x,y,z]))
  (hx:af.kindOf x=some .local) (hy:af.kindOf y=some .local) (hz:af.kindOf z=some .local) (hk:af.scope.kind= .function)
  (h:aQ n af e m σ (X5 λb c d ap=>Q .next (fN (fN (fN m z d) y c) x b) ap)):jR n af (.Assign [t] e pos) m σ Q:=by
 intro A X P s hA T
 rw[FG,hs,hw]
 refine cS (fi (cS (aq ?_)))
 rw[aK Bool.false_ne_true]
 refine h.run hA T λaR ap a v aH aJ aL bF aD=>?_
 obtain⟨b,c,d,rfl,q⟩:=aD
 refine wb (aq ?_)
 show ai _ _ (rule "assign.swapped-stores">>=λω=>AS v 3 none>>=λitems=>ue [λv=>xT af z v,λv=>xT af y v,λv=>xT af x v] items.reverse>>=λω=>pure A8) _ _ aH
 refine wb (fj (wb (AN hA.handled aL (.tup _) bF rfl λbA aV vs bm ba rs=>?_)))
 cases rs with
 |cons rb rs=>
 cases rs with
 |cons rc rs=>
 cases rs using RepL.consE with
 |cons rd rs=>
 cases rs
 show ai _ _ (ue _ [_,_,_]>>=_) _ _ aV
 refine wb (wb (cq (xB (oB ba rd hz hk λeJ c8=>?_))))
 refine wb (cq (xB (oB c8 rc hy hk λgR gx=>?_)))
 refine wb (cq (xB (oB gx rb hx hk λo_ i7=>aq (aq ?_))))
 exact⟨_,bA,ap,.next,aJ.trans bm,i7,.next,q⟩
theorem ST{t:Expr}{b o:ae Stmt}{pos:Pos}(I:Nat->au->ah->Prop)(k:Nat)(h0:I k m σ)
  (h: ∀k m σ,I k m σ->fv n af t m σ λc ap=>if c then ch n af b m ap (λf m₂ aO=>match f with | .next | .cont=> ∃j,j<k/\I j m₂ aO | .brk=>Q .next m₂ aO | .ret v=>Q (.ret v) m₂ aO) else ch n af o m ap Q):
  jR n af (.While t b o pos) m σ Q:=by
 intro A X P s hA T
 refine wpAny_While ?_
 refine codeAny_whileLoop (λk s'=>Cv af X P (I k) s') (λk aH hI=>?_) k ⟨m,P,σ,PM.le.refl P,T,h0⟩
 obtain⟨m₁,aR,ap,aJ,aL,aD⟩:=hI
 refine bT (h k m₁ ap aD A X aR aH hA aL) (λc aV pq=>?_) BI
 obtain⟨bA,aO,a,bm,ba,b_,aI⟩:=pq
 subst b_
 cases a with
 |true=>
  refine bT (aI A X bA aV hA ba) (λf eJ pq=>?_) BI
  obtain⟨iw,eK,dZ,a,cX,c8,fO,bK⟩:=pq
  have hP:=(aJ.trans bm).trans cX
  cases fO with
  |next=>obtain⟨j,hj,bK⟩:=bK;exact⟨j,hj,iw,eK,dZ,hP,c8,bK⟩
  |cont=>obtain⟨j,hj,bK⟩:=bK;exact⟨j,hj,iw,eK,dZ,hP,c8,bK⟩
  |brk=>exact⟨iw,eK,dZ,.next,hP,c8,.next,bK⟩
  |ret r=>exact⟨iw,eK,dZ,.ret _,hP,c8,.ret r,bK⟩
 |false=>
  refine bT (aI A X bA aV hA ba) (λf eJ pq=>?_) BI
  obtain⟨iw,eK,dZ,a,cX,c8,fO,bK⟩:=pq
  exact⟨iw,eK,dZ,a,(aJ.trans bm).trans cX,c8,fO,bK⟩
end
section
variable{n:Nat}{X P:PM}{σ:ah}{s:Shared}{A:bo}{Q:AV->ah->Prop}
noncomputable abbrev fE(name qual:Str)(params:Arguments)(body:ae Stmt)(scope:Scope)(cd pm:Value):FuncData:=fnOf name qual params body scope .none .none .none pm none cd .none
noncomputable def kL:ae (Str×AV)->au
 |[]=>λω=>none
 |(x,a)::r=>λy=>if y=x then some a else kL r y
noncomputable def Cz:AF->AV
 | .ret a=>a
 |_=> .raw .none
theorem P5{P:PM}{args:ae AV}(r:RepL p P args vs)(hl:names.length=args.length)(x:Str):mf p P (kL (names.zip args) x) (((names.zip vs).find? λy=>y.1==x).map (·.2)):=by
 induction r using RepL.ind generalizing names with
 |h0=>rw[ae.zip_nil_right];exact nofun
 | @h1 a v as vs h r ih=>
  cases names with
  |nil=>exact nofun
  |cons y ns=>
   rw[NP,NP]
   intro b e
   replace e:(if x=y then some a else kL (ns.zip as) x)=some b:=e
   by_cases q:x=y
   .rw[if_pos q] at e
    rw[Fc (p:=λz:Str×Value=>z.1==x) (qa.mpr q.symm)]
    exact⟨v,rfl,aB.some.inj e▸h⟩
   .rw[aK q] at e
    rw[Fb (p:=λz:Str×Value=>z.1==x) λz=>q (qa.mp z).symm]
    exact ih (Nat.succ.inj hl) b e
theorem GG(h0: ∀m,B [] m x=m x)(h1: ∀y v r m,∃m',B ((y,v)::r) m=B r m'/\m' x=if x=y then some v else m x)(binds:ae (Str×Value)): ∀m,(binds.map (·.1)).Nodup->B binds m x=match(binds.find? λy=>y.1==x) with |some y=>some y.2 |none=>m x:=by
 induction binds with
 |nil=>exactλm ω=>h0 m
 |cons p r ih=>
  intro m hn
  obtain⟨m',e,e'⟩:=h1 p.1 p.2 r m
  have hn:=fF.mp hn
  rw[show B (p::r) m=B r m' from e,ih m' hn.2]
  by_cases q:p.1=x
  .have z:r.find? (λz=>z.1==x)=none:=NW.mpr λz hz he=>hn.1 (aU.mpr ⟨z,hz,(lZ he).trans q.symm⟩)
   rw[z,Fc (p:=λz:Str×Value=>z.1==x) (qa.mpr q)]
   exact e'.trans (if_pos q.symm)
  .rw[Fb (p:=λz:Str×Value=>z.1==x) λz=>q (lZ z)]
   cases r.find? (λz=>z.1==x) with
   |some z=>rfl
   |none=>exact e'.trans (aK (fm q))
theorem Pt(kind:Str->aB NameKind)(binds:ae (Str×Value))(m:Str->aB Value)(x:Str)(hn:(binds.map (·.1)).Nodup)(hk:kind x=some .local):bindL kind binds m x=match(binds.find? λy=>y.1==x) with |some y=>some y.2 |none=>m x:=
 GG (B:=bindL kind) (λω=>rfl) (λy v r m=>⟨_,rfl,by
  by_cases h:kind y=some .local
  .exact congrFun (if_pos h) x
  .exact(congrFun (aK h) x).trans (aK λq:x=y=>h (q▸hk)).symm⟩) binds m hn
theorem Pu(kind:Str->aB NameKind)(binds:ae (Str×Value))(m:Str->aB Value)(x:Str)(hn:(binds.map (·.1)).Nodup)(hk:kind x≠some .local):bindC kind binds m x=match(binds.find? λy=>y.1==x) with |some y=>some y.2 |none=>m x:=
 GG (B:=bindC kind) (λω=>rfl) (λy v r m=>⟨_,rfl,by
  by_cases h:kind y=some .local
  .exact(congrFun (if_pos h) x).trans (aK λq:x=y=>hk (q▸h)).symm
  .exact congrFun (aK h) x⟩) binds m hn
theorem Vu{f:Addr}{qual:Str}{cd pm oc:Value}{args:ae AV}
  (ho:KF.lookup f=some ⟨oc,od,.func (fE name qual params body scope cd pm),qT⟩) (wm:codeIn KF cd qual=true)
  (hb: ∀vs:ae Value,vs.length=names.length->sg (fE name qual params body scope cd pm) ⟨vs,[]⟩=pure (names.zip vs))
  (hlen:names.length=args.length) (mO:names.Nodup)
  (Vv: ∀k,∀x∈names,scope.names.lookup x=some .local\/(scope.names.lookup x=some .cell/\((xO k scope.names []).lookup x).isSome=true))
  (X6:scope.isCoroutine=false) (Wr:scope.isGenerator=false) (hk:scope.kind= .function)
  (h: ∀L,ch n (qg (fE name qual params body scope cd pm) L f) body (kL (names.zip args)) σ λfl ω σ'=>Q (Cz fl) σ'):aT (n+3) (.ref f) args σ Q:=by
 intro A X P s vs hA I r
 have XK:=gC.jZ I
 obtain⟨p,loose,mg,mb,TT⟩:=H.top
 have g:=TT.keeps I.keep
 have X7:vs.length=names.length:=by rw[<- r.length,hlen]
 refine codeAny_call_cells (binds:=names.zip vs) (body:=body) hA.lt (XK _ _ ho) rfl g.nolimit (codeRec_of XK wm) rfl (hb vs X7) rfl (λx hx=>Vv _ x.1 (ae.of_mem_zip hx).1) (λaH x=>?_) X6 Wr hk
 have keep:=x.toInCall.keep
 obtain⟨aD,tk,rfl⟩:=x.toInCall.same
 have gS:bD X P σ {s with heap:=aD,toks:=tk}:=I.grow keep
 have zp:((names.zip vs).map (·.1))=names:=by rw[ae.map_fst_zip];lia
 have out: ∀c,s.heap.objs.size<=c->σ c=none/\X c=none/\P c=none:=λc hc=>by
  refine⟨?_,?_,?_⟩
  .cases q:σ c with
   |none=>rfl
   |some ao=>obtain⟨o,ho,_⟩:=I.st _ _ q;exact ax (Heap.lt_size ho) (Nat.not_lt.mpr hc)
  .cases q:X c with
   |none=>rfl
   |some ao=>exact ax (Heap.lt_size (I.x _ _ q)) (Nat.not_lt.mpr hc)
  .cases q:P c with
   |none=>rfl
   |some ao=>exact ax (Heap.lt_size (I.p _ _ q)) (Nat.not_lt.mpr hc)
 have rep: ∀x,mf G.w.params P (kL (names.zip args) x) (((names.zip vs).find? λy=>y.1==x).map (·.2)):=P5 r hlen
 have aL:At (qg (fE name qual params body scope cd pm) s.heap.objs.size f) (kL (names.zip args)) X P σ {s with heap:=aD,toks:=tk}:=by
  refine⟨gS,⟨⟨_,x.toInCall.ns,λy hy=>?_⟩,out _ (Nat.le_refl _),λy c hc=>?_,λω=>⟨λy c hc=>(out c (Nat.le_of_lt (x.above y c (mem_of_lookup hc)))).2.1,λy z c hy hz=>name_of_addr x.apart (mem_of_lookup hy) (mem_of_lookup hz)⟩⟩⟩
  .rw[Pt _ _ _ _ (by rw[zp];exact mO) hy]
   have:=rep y
   intro b e
   obtain⟨u,hu,ru⟩:=this b e
   refine⟨u,?_,ru⟩
   cases q:(names.zip vs).find? (λz=>z.1==y) with
   |none=>rw[q] at hu;cases hu
   |some z=>rw[q] at hu;simpa using hu
  .have lt:=x.above y c (mem_of_lookup hc)
   have o:=out c (Nat.le_of_lt lt)
   refine⟨⟨_,x.cell y c hc,λhy=>?_⟩,Nat.ne_of_gt lt,o.1,o.2.2⟩
   rw[Pu _ _ _ _ (by rw[zp];exact mO) hy]
   have:=rep y
   intro b e
   obtain⟨u,hu,ru⟩:=this b e
   refine⟨u,?_,ru⟩
   cases q:(names.zip vs).find? (λz=>z.1==y) with
   |none=>rw[q] at hu;cases hu
   |some z=>rw[q] at hu;simpa using hu
 refine bT (h s.heap.objs.size _ X P _ (hA.deeper _) aL) (λfl aV pq=>?_) λω ω e=>e.elim
 obtain⟨m₂,bA,aO,a,bm,ba,b_,aI⟩:=pq
 refine⟨bA,aO,Cz a,_,rfl,bm,ba.inv,?_,aI⟩
 cases b_ with
 |ret r=>exact r
 |next=>exact .raw _
 |brk=>exact .raw _
 |cont=>exact .raw _
theorem w_new(C:Addr)(l:ae Value):(Code.builtin "type.__call__" ⟨.ref C::l,[]⟩).weight=1:=by kernel_rfl
theorem Vw(C:Addr)(l:ae Value):(Code.builtin "type.__call__" ⟨.ref C::l,[]⟩).cUnits=1:=by kernel_rfl
theorem nK{fI:Addr}{args:ae AV}(hm:makesIn KF C=true)(hi:sA KF (.ref C) "__init__"=some (some (.ref fI)))(hf:isFn KF (.ref fI)=true)
  (h: ∀x dx,σ dx=none->aT n (.ref fI) (.obj x C dx::args) (aA σ dx (.attrs [])) λa σ'=>a= .raw .none/\Q (.obj x C dx) σ'):aT (n+5) (.ref C) args σ Q:=by
 intro A X P s vs hA I r
 have XK:=gC.jZ I
 obtain⟨hh,g,d,t,os⟩:=s
 refine make_core (makes_of XK hm) (looks_findIn XK hi) (λself=>bind_fn XK self (qa.mp hf)) (.inl rfl) ?_
 have gS:=I.alloc (t:=t) (ao:= .attrs []) (o:=bZ #[] 0) (h':=hh.push emptyDict) rfl (λa o e=>Heap.get?_push_of_some _ e) (Heap.get?_push_size _ rfl) (.attrs .nil)
 refine gS.frozen (t:=t) (o:=l_ C hh.objs.size) (h':=(hh.push emptyDict).push (l_ C hh.objs.size)) rfl (λa o e=>Heap.get?_push_of_some _ e) (Heap.get?_push_size _ rfl) λbA bm Ws Z7 nR=>?_
 have Js:bA (hh.objs.size+1)=some (l_ C hh.objs.size):=by rw[<- Ws];congr 1;rw[Heap.size_push]
 have X8:cT n (A.under (.builtin "type.__call__" ⟨.ref C::vs,[]⟩)):=by
  refine⟨hA.handled,?_,?_⟩
  .show A.depth+Code.weight _+n<=_;rw[w_new];rw[Nat.add_assoc];exact Nat.le_trans (Nat.add_le_add_left (show 1+n<=n+5 by lia) _) hA.depth
  .show A.units+Code.cUnits _+n<=_;rw[Vw];rw[Nat.add_assoc];exact Nat.le_trans (Nat.add_le_add_left (show 1+n<=n+5 by lia) _) hA.units
 refine lV (h (hh.objs.size+1) hh.objs.size I.fresh.1 _ X bA _ _ X8 nR (.cons (.obj Js) (r.mono bm))) λres s' pq=>?_
 obtain⟨eK,dZ,a,v,e,cX,mC,fO,ea,q⟩:=pq
 subst e;subst ea;cases fO
 exact⟨rfl,eK,dZ,_,_,rfl,bm.trans cX,mC,.obj (cX _ _ Js),q⟩
end
inductive aM:Nat->AV->Prop
 |int (k:Nat) (i:aj):aM k (.int i)
 |str (k:Nat) (s:Str):aM k (.str s)
 |tup {k:Nat} {l:ae AV} (h: ∀a∈l,aM k a):aM (k+1) (.tup l)
theorem aM.up(h:aM k a):k<=j->aM j a:=by
 intro hj
 induction h generalizing j with
 |int=>exact .int _ _
 |str=>exact .str _ _
 |tup _ ih=>
  cases j with
  |zero=>exact ax hj (Nat.not_succ_le_zero _)
  |succ j=>exact .tup λa ha=>ih a ha (Nat.le_of_succ_le_succ hj)
section
variable{n:Nat}{X P:PM}{σ:ah}{s:Shared}{A:bo}
theorem lx(I:bD X P σ s)(r:RepV p P (.tup l) v): ∃a items k,v= .ref a/\s.heap.get? a=some (dE items k)/\RepL p P l items.toList:=by
 cases r using RepV.tupE with |tup h r=>exact⟨_,_,_,rfl,I.p _ _ h,r⟩
theorem u3(I:bD X P σ s)(r:RepV p P (.lst l) v): ∃a items k,v= .ref a/\s.heap.get? a=some (cw items k)/\RepL p P l items.toList:=by
 cases r using RepV.vJ with |lst h r=>exact⟨_,_,_,rfl,I.p _ _ h,r⟩
theorem A_(xs ys:ae AV)(hl:xs.length=ys.length):(c7 xs.length).all (λj=>decide (xs[j]? =ys[j]?))=decide (xs=ys):=by
 by_cases h:xs=ys
 .subst h;simp
 .rw[cu h,ae.all_eq_false]
  apply Classical.byContradiction
  intro hn
  refine h (N1 λj=>?_)
  by_cases hj:j<xs.length
  .apply Classical.byContradiction
   intro cj
   exact hn ⟨j,gL.mpr hj,by simpa using cj⟩
  .rw[Ap (by lia),Ap (by lia)]
theorem RepL.at{P:PM}(r:RepL p P l vs)(hj:j<vs.length): ∃(h:j<l.length),RepV p P (l[j]) (vs[j]):=by
 have hl:j<l.length:=by rw[r.length];exact hj
 refine⟨hl,?_⟩
 obtain⟨y,hy,ry⟩:=r.get (cL hl)
 rw[cL hj] at hy;cases hy;exact ry
inductive DV(p:bg)(P:PM)(k:Nat):AV->Value->Prop
 |int (i:aj) (t:el):DV p P k (.int i) (.int i t)
 |str (i:Str) (t:el):DV p P k (.str i) (.str i t)
 |tup {l:ae AV} {a:Addr} {items:ay Value} {n:Nat} (h:P a=some (dE items n)) (r:RepL p P l items.toList) (d: ∀x∈l,∃j,j+1=k/\aM j x):DV p P k (.tup l) (.ref a)
theorem aM.dv{P:PM}(d:aM k a): ∀{u},RepV p P a u->DV p P k a u:=
 d.rec (motive:=λk a ω=> ∀{u},RepV p P a u->DV p P k a u) (λk i u r=>RepV.intE (motive:=λu ω=>DV p P k (.int i) u) (λt=> .int i t) r) (λk i u r=>RepV.strE (motive:=λu ω=>DV p P k (.str i) u) (λt=> .str i t) r)
  λ{k l} d _ u r=>RepV.tupE (motive:=λu ω=>DV p P (k+1) (.tup l) u) (λh r=> .tup h r λx hx=>⟨k,rfl,d x hx⟩) r
theorem RepL.ext{P:PM}(r:RepL p P l vs)(r':RepL p P l' vs)(h: ∀x∈l,∀y∈l',∀v,RepV p P x v->RepV p P y v->x=y):l=l':=by
 induction l generalizing l' vs with
 |nil=>cases r;cases l' with
  |nil=>rfl
  |cons y l'=>cases r'
 |cons x l ih=>cases r using RepL.consE with |cons rx r=>cases l' with
  |nil=>cases r'
  |cons y l'=>cases r' using RepL.consE with |cons ry r'=>rw[h x (.head _) y (.head _) _ rx ry,ih r r' λx hx y hy=>h x (.tail _ hx) y (.tail _ hy)]
theorem IG{P:PM}{x y:AV}{w:Value}(dx:DV p P k x w)(dy:DV p P k y w)(ih: ∀x y w,(∃j,j+1=k/\aM j x)->(∃j,j+1=k/\aM j y)->RepV p P x w->RepV p P y w->x=y):x=y:=by
 induction dx with
 |int i t=>cases dy;rfl
 |str i t=>cases dy;rfl
 |tup h r d=>cases dy with |tup h' r' d'=>
  rw[h] at h';cases h'
  rw[r.ext r' λx hx y hy v rx ry=>ih x y v (d x hx) (d' y hy) rx ry]
theorem yc{P:PM}(k:Nat): ∀(x y:AV) (w:Value),aM k x->aM k y->RepV p P x w->RepV p P y w->x=y:=by
 induction k with
 |zero=>exactλx y w dx dy rx ry=>IG (dx.dv rx) (dy.dv ry) λ_ _ _ ⟨j,e,_⟩=>nomatch e
 |succ k ih=>exactλx y w dx dy rx ry=>IG (dx.dv rx) (dy.dv ry) λ_ _ w ⟨j,e,d⟩ ⟨j',e',d'⟩ r r'=>ih _ _ w (Nat.succ.inj e▸d) (Nat.succ.inj e'▸d') r r'
theorem SU{i j:aj}{t u:el}:ft A s (.int i t) (.int j u) (decide (AV.int i=AV.int j)):=by
 have:decide (AV.int i=AV.int j)=(i==j):=by by_cases h:i=j<;>simp[h]
 rw[this];exact ft.int_int _ _ _ _
theorem SV{i j:Str}{t u:el}:ft A s (.str i t) (.str j u) (decide (AV.str i=AV.str j)):=by
 have:decide (AV.str i=AV.str j)=(i==j):=by by_cases h:i=j<;>simp[h]
 rw[this];exact ft.str_str _ _ _ _
def X9(P:PM)(s:Shared)(k:Nat):Prop:= ∀(a b:AV) (u v:Value) (A:bo),aM k a->aM k b->RepV G.w.params P a u->RepV G.w.params P b v->A.units+k<cLine->ft A s u v (decide (a=b))
theorem uT(g1:j<l.length)(g2:j<l'.length):decide (l[j]? =l'[j]?)=decide (l[j]=l'[j]):=AB.mpr (by rw[cL g1,cL g2,aB.some.injEq])
theorem SW(I:P.le s.heap.get?)(ih: ∀x y u v A,(∃j,j+1=k/\aM j x)->(∃j,j+1=k/\aM j y)->RepV G.w.params P x u->RepV G.w.params P y v->A.units+k<cLine+1->ft A s u v (decide (x=y))){a a':Addr}{bW:ay Value}{c c':Nat}
  (d: ∀x∈l,∃j,j+1=k/\aM j x) (d': ∀x∈l',∃j,j+1=k/\aM j x) (inj:a=a'->l=l')
  (h:P a=some (dE items c)) (r:RepL G.w.params P l items.toList) (h':P a'=some (dE bW c')) (r':RepL G.w.params P l' bW.toList) (hu:A.units+k<cLine):ft A s (.ref a) (.ref a') (decide (AV.tup l=AV.tup l')):=by
 by_cases ha:a=a'
 .rw[inj ha,decide_eq_true rfl,ha]
  exact ft.same _
 .refine ft.of_refs ha ?_
  have e1:items.size=l.length:=by rw[<- ck,<- r.length]
  have e2:bW.size=l'.length:=by rw[<- ck,<- r'.length]
  have key:=RcAt.tuples (A:=A) (s:=s) (e:=λj=>decide (l[j]? =l'[j]?)) ⟨_,I _ _ h,rfl,_,rfl⟩ ⟨_,I _ _ h',rfl,_,rfl⟩ (Nat.lt_of_le_of_lt (Nat.le_add_right _ k) hu) (λj h1 h2=>by
   obtain⟨g1,q1⟩:=r.at (j:=j) h1
   obtain⟨g2,q2⟩:=r'.at (j:=j) h2
   have:=ih _ _ _ _ A.in1 (d _ (gK g1)) (d' _ (gK g2)) q1 q2 (by show A.units+1+k<_;lia)
   rw[uT g1 g2]
   exact this)
  have e:((c7 (min items.size bW.size)).all (λj=>decide (l[j]? =l'[j]?))&&items.size==bW.size)=decide (AV.tup l=AV.tup l'):=by
   rw[e1,e2]
   by_cases hl:l.length=l'.length
   .rw[<- hl,Nat.min_self,A_ l l' hl,ni,Bool.and_true]
    exact AB.mpr ⟨congrArg _,AV.tup.inj⟩
   .rw[pW.mpr hl,Bool.and_false,cu (λq=>hl (congrArg xH (AV.tup.inj q)))]
  rw[e] at key
  exact key
theorem sP{u:Value}(n:a≠b)(h:ft A s u v false):ft A s u v (decide (a=b)):=cu n▸h
theorem Jt(I:P.le s.heap.get?){x y:AV}{u:Value}(dx:DV G.w.params P k x u)(dy:DV G.w.params P k y v)(hu:A.units+k<cLine)(inj: ∀l l' a,RepV G.w.params P (.tup l) (.ref a)->RepV G.w.params P (.tup l') (.ref a)->x= .tup l->y= .tup l'->l=l')
  (ih: ∀x y u v A,(∃j,j+1=k/\aM j x)->(∃j,j+1=k/\aM j y)->RepV G.w.params P x u->RepV G.w.params P y v->A.units+k<cLine+1->ft A s u v (decide (x=y))):ft A s u v (decide (x=y)):=by
 have hz:=Nat.lt_of_le_of_lt (Nat.le_add_right _ k) hu
 induction dx with
 |int i t=>induction dy with
  |int j t'=>exact SU
  |str j t'=>exact sP (λe=>nomatch e) (ft.int_str _ _ _ _)
  |tup h r d=>exact sP (λe=>nomatch e) (ft.int_tuple _ _ ⟨_,I _ _ h,rfl,_,rfl⟩ hz)
 |str i t=>induction dy with
  |int j t'=>exact sP (λe=>nomatch e) (ft.str_int _ _ _ _)
  |str j t'=>exact SV
  |tup h r d=>exact sP (λe=>nomatch e) (ft.str_tuple _ _ ⟨_,I _ _ h,rfl,_,rfl⟩ hz)
 |tup h r d=>induction dy with
  |int j t'=>exact sP (λe=>nomatch e) (ft.tuple_int _ _ ⟨_,I _ _ h,rfl,_,rfl⟩ hz)
  |str j t'=>exact sP (λe=>nomatch e) (ft.tuple_str _ _ ⟨_,I _ _ h,rfl,_,rfl⟩ hz)
  |tup h' r' d'=>exact SW I ih d d' (λe=>inj _ _ _ (.tup h r) (e▸ .tup h' r') rfl rfl) h r h' r' hu
theorem tu(I:P.le s.heap.get?)(k:Nat):X9 P s k:=by
 induction k with
 |zero=>exactλa b u v A da db ra rb hu=>Jt I (da.dv ra) (db.dv rb) hu (λl l' c r r' e e'=>AV.tup.inj (yc 0 _ _ _ (e▸da) (e'▸db) r r')) λ_ _ _ _ _ ⟨_,e,_⟩=>nomatch e
 |succ k ih=>exactλa b u v A da db ra rb hu=>Jt I (da.dv ra) (db.dv rb) hu (λl l' c r r' e e'=>AV.tup.inj (yc (k+1) _ _ _ (e▸da) (e'▸db) r r')) λ_ _ u v A ⟨_,e,d⟩ ⟨_,e',d'⟩ r r' hu=>ih _ _ u v A (Nat.succ.inj e▸d) (Nat.succ.inj e'▸d') r r' (Nat.lt_of_succ_lt_succ hu)
end
section
variable{n:Nat}{σ:ah}{Q:AV->ah->Prop}
theorem gp{i j:aj}(h:Q (.int (i+j)) σ):cD n σ (my .Add (.int i) (.int j)) Q:=by
 rintro af m A X P s c hA T ⟨u,v,ru,rv,rfl⟩
 cases ru;cases rv
 exact PySem.P.add_int (aC.now (T.tok _) (.int _ _) h)
theorem mq{i j:aj}(h:Q (.int (i - j)) σ):cD n σ (my .Sub (.int i) (.int j)) Q:=by
 rintro af m A X P s c hA T ⟨u,v,ru,rv,rfl⟩
 cases ru;cases rv
 exact PySem.P.sub_int (aC.now (T.tok _) (.int _ _) h)
theorem sQ{i j:aj}(hm:IntMulOk i j)(h:Q (.int (i*j)) σ):cD n σ (my .Mult (.int i) (.int j)) Q:=by
 rintro af m A X P s c hA T ⟨u,v,ru,rv,rfl⟩
 cases ru;cases rv
 exact PySem.P.mul_int (aC.now (T.tok _) (.int _ _) h) hm
theorem jM{i j:aj}(hm:j≠0)(h:Q (.int (i.fmod j)) σ):cD n σ (my .Mod (.int i) (.int j)) Q:=by
 rintro af m A X P s c hA T ⟨u,v,ru,rv,rfl⟩
 cases ru;cases rv
 exact mod_int' hm (aC.now (T.tok _) (.int _ _) h)
theorem Vx{i j:aj}(hm:j≠0)(hp:cF.divisionGoesByPylong i j=false)(h:Q (.int (i.fdiv j)) σ):cD n σ (my .FloorDiv (.int i) (.int j)) Q:=by
 rintro af m A X P s c hA T ⟨u,v,ru,rv,rfl⟩
 cases ru;cases rv
 exact floordiv_int hm (aC.now (T.tok _) (.int _ _) h) (.inl hp)
theorem Vy{i:aj}(h:Q (.int (-i)) σ):cD n σ (K1 .USub (.int i)) Q:=by
 rintro af m A X P s c hA T ⟨u,ru,rfl⟩
 cases ru
 exact PySem.P.neg_int (aC.now (T.tok _) (.int _ _) h)
theorem jt{i j:aj}(h:Q (.raw (.bool (i==j))) σ):cD n σ (eU .Eq (.int i) (.int j)) Q:=by
 rintro af m A X P s c hA T ⟨u,v,ru,rv,rfl⟩
 cases ru;cases rv
 exact PySem.P.eq_int (aC.now T (.raw _) h)
theorem vM{i j:aj}(h:Q (.raw (.bool (i != j))) σ):cD n σ (eU .NotEq (.int i) (.int j)) Q:=by
 rintro af m A X P s c hA T ⟨u,v,ru,rv,rfl⟩
 cases ru;cases rv
 exact PySem.P.ne_int (aC.now T (.raw _) h)
theorem pf{i j:aj}(h:Q (.raw (.bool (decide (i<j)))) σ):cD n σ (eU .Lt (.int i) (.int j)) Q:=by
 rintro af m A X P s c hA T ⟨u,v,ru,rv,rfl⟩
 cases ru;cases rv
 exact PySem.P.lt_int (aC.now T (.raw _) (by simpa using h))
theorem C8{i j:aj}(h:Q (.raw (.bool (decide (i<=j)))) σ):cD n σ (eU .LtE (.int i) (.int j)) Q:=by
 rintro af m A X P s c hA T ⟨u,v,ru,rv,rfl⟩
 cases ru;cases rv
 exact PySem.P.le_int (aC.now T (.raw _) (by simpa using h))
theorem s9{i j:aj}(h:Q (.raw (.bool (decide (j<i)))) σ):cD n σ (eU .Gt (.int i) (.int j)) Q:=by
 rintro af m A X P s c hA T ⟨u,v,ru,rv,rfl⟩
 cases ru;cases rv
 exact PySem.P.gt_int (aC.now T (.raw _) (by simpa using h))
theorem Wt{i j:aj}(h:Q (.raw (.bool (decide (j<=i)))) σ):cD n σ (eU .GtE (.int i) (.int j)) Q:=by
 rintro af m A X P s c hA T ⟨u,v,ru,rv,rfl⟩
 cases ru;cases rv
 exact PySem.P.ge_int (aC.now T (.raw _) (by simpa using h))
end
section
variable{n:Nat}{af:Env}{m:au}{X P:PM}{σ:ah}{s:Shared}{A:bo}{Q:AV->ah->Prop}
theorem DD{a b c d z:Nat}(e:a=b)(e':c=d)(h:b+d<=z):a+c<=z:=by rw[e,e'];exact h
theorem DE{a b:Nat}(e:a=b)(h:b<2^63):(a:aj)<2^63:=by lia
theorem SX(I:bD X iu σ s){u:Value}(d: ∀x∈l,aM k x)(d': ∀x∈l',aM k x)
  (r:RepV G.w.params iu (.tup l) u) (r':RepV G.w.params iu (.tup l') v) (hu:A.units+(k+1)<cLine):RcAt A s u v (decide (l=l'))/\RcNeAt A s u v (!decide (l=l')):=by
 obtain⟨a,items,c,rfl,h,r⟩:=lx I r
 obtain⟨a',bW,c',rfl,h',r'⟩:=lx I r'
 have e1:items.size=l.length:=by rw[<- ck,<- r.length]
 have e2:bW.size=l'.length:=by rw[<- ck,<- r'.length]
 have e:((c7 (min items.size bW.size)).all (λj=>decide (l[j]? =l'[j]?))&&items.size==bW.size)=decide (l=l'):=by
  by_cases hl:l.length=l'.length
  .have:min items.size bW.size=l.length:=by lia
   rw[this,A_ l l' hl,e1,e2,hl];simp
  .have:l≠l':=λq=>hl (by rw[q])
   have h2:(items.size==bW.size)=false:=by rw[e1,e2];simpa using hl
   rw[h2,Bool.and_false,cu this]
 have he: ∀j (h1:j<items.size) (h2:j<bW.size),ft A.in1 s items[j] bW[j] (decide (l[j]? =l'[j]?)):=λj h1 h2=>by
  obtain⟨g1,q1⟩:=r.at (j:=j) (by simpa using h1)
  obtain⟨g2,q2⟩:=r'.at (j:=j) (by simpa using h2)
  have:=tu I.p k _ _ _ _ A.in1 (d _ (gK g1)) (d' _ (gK g2)) q1 q2 (by show A.units+1+k<_;lia)
  have e:decide (l[j]? =l'[j]?)=decide (l[j]=l'[j]):=by
   rw[cL g1,cL g2];simp
  rw[e];simpa using this
 refine⟨?_,?_⟩
 .rw[<- e];exact RcAt.tuples ⟨_,h,rfl,_,rfl⟩ ⟨_,h',rfl,_,rfl⟩ (Nat.lt_of_le_of_lt (Nat.le_add_right _ _) hu) he
 .rw[<- e];exact RcNeAt.tuples ⟨_,h,rfl,_,rfl⟩ ⟨_,h',rfl,_,rfl⟩ (Nat.lt_of_le_of_lt (Nat.le_add_right _ _) hu) he
theorem HT(I:bD X iu σ s){u:Value}(d: ∀x∈l,aM k x)(d': ∀x∈l',aM k x)
  (r:RepV G.w.params iu (.lst l) u) (r':RepV G.w.params iu (.lst l') v) (hu:A.units+(k+1)<cLine):RcAt A s u v (decide (l=l'))/\RcNeAt A s u v (!decide (l=l')):=by
 obtain⟨a,items,c,rfl,h,r⟩:=u3 I r
 obtain⟨a',bW,c',rfl,h',r'⟩:=u3 I r'
 have e1:items.size=l.length:=by rw[<- ck,<- r.length]
 have e2:bW.size=l'.length:=by rw[<- ck,<- r'.length]
 by_cases hl:l.length=l'.length
 .have e:((c7 items.size).all (λj=>decide (l[j]? =l'[j]?)))=decide (l=l'):=by
   rw[e1,A_ l l' hl]
  have he: ∀j (h1:j<items.size) (h2:j<bW.size),ft A.in1 s items[j] bW[j] (decide (l[j]? =l'[j]?)):=λj h1 h2=>by
   obtain⟨g1,q1⟩:=r.at (j:=j) (by simpa using h1)
   obtain⟨g2,q2⟩:=r'.at (j:=j) (by simpa using h2)
   have:=tu I.p k _ _ _ _ A.in1 (d _ (gK g1)) (d' _ (gK g2)) q1 q2 (by show A.units+1+k<_;lia)
   have e:decide (l[j]? =l'[j]?)=decide (l[j]=l'[j]):=by
    rw[cL g1,cL g2];simp
   rw[e];simpa using this
  refine⟨?_,?_⟩
  .rw[<- e];exact RcAt.lists ⟨_,h,rfl,_,rfl⟩ ⟨_,h',rfl,_,rfl⟩ (by lia) (Nat.lt_of_le_of_lt (Nat.le_add_right _ _) hu) he
  .rw[<- e];exact RcNeAt.lists ⟨_,h,rfl,_,rfl⟩ ⟨_,h',rfl,_,rfl⟩ (by lia) (Nat.lt_of_le_of_lt (Nat.le_add_right _ _) hu) he
 .have:l≠l':=λq=>hl (by rw[q])
  have h2:(items.size != bW.size)=true:=by rw[e1,e2];simpa using hl
  rw[cu this]
  exact⟨RcAt.lists_lengths ⟨_,h,rfl,_,rfl⟩ ⟨_,h',rfl,_,rfl⟩ h2 (Nat.lt_of_le_of_lt (Nat.le_add_right _ _) hu),RcNeAt.lists_lengths ⟨_,h,rfl,_,rfl⟩ ⟨_,h',rfl,_,rfl⟩ h2 (Nat.lt_of_le_of_lt (Nat.le_add_right _ _) hu)⟩
theorem cT.deep{A:bo}(R:cT n A)(hk:k<=100):A.units+k<cLine:=by have:=R.units;unfold cLine;lia
theorem QY(d: ∀x∈l,aM 8 x)(d': ∀x∈l',aM 8 x)(h:Q (.raw (.bool (!decide (l=l')))) σ):cD n σ (eU .NotEq (.tup l) (.tup l')) Q:=by
 rintro af m A X P s c hA T ⟨u,v,ru,rv,rfl⟩
 exact(SX T.inv d d' ru rv (hA.deep (by decide))).2 _ _ _ _ (aC.now T (.raw _) h)
theorem G4(d: ∀x∈l,aM 8 x)(d': ∀x∈l',aM 8 x)(h:Q (.raw (.bool (decide (l=l')))) σ):cD n σ (eU .Eq (.lst l) (.lst l')) Q:=by
 rintro af m A X P s c hA T ⟨u,v,ru,rv,rfl⟩
 exact(HT T.inv d d' ru rv (hA.deep (by decide))).1 _ _ _ _ (aC.now T (.raw _) h)
theorem uF(d: ∀x∈l,aM 8 x)(d': ∀x∈l',aM 8 x)(h:Q (.raw (.bool (!decide (l=l')))) σ):cD n σ (eU .NotEq (.lst l) (.lst l')) Q:=by
 rintro af m A X P s c hA T ⟨u,v,ru,rv,rfl⟩
 exact(HT T.inv d d' ru rv (hA.deep (by decide))).2 _ _ _ _ (aC.now T (.raw _) h)
theorem fW{a b:Str}(h:Q (.raw (.bool (decide (a=b)))) σ):cD n σ (eU .Eq (.str a) (.str b)) Q:=by
 rintro af m A X P s c hA T ⟨u,v,ru,rv,rfl⟩
 cases ru;cases rv
 refine PySem.P.eq_str (aC.now T (.raw _) ?_)
 rw[str_beq,show(a==b)=decide (a=b) by by_cases h:a=b<;>simp[h]];exact h
theorem QZ{a b:Str}(h:Q (.raw (.bool (!decide (a=b)))) σ):cD n σ (eU .NotEq (.str a) (.str b)) Q:=by
 rintro af m A X P s c hA T ⟨u,v,ru,rv,rfl⟩
 cases ru;cases rv
 refine PySem.P.ne_str (aC.now T (.raw _) ?_)
 have:(a.cps.toList != b.cps.toList)= !(a.cps.toList==b.cps.toList):=rfl
 rw[this,str_beq,show(a==b)=decide (a=b) by by_cases h:a=b<;>simp[h]];exact h
noncomputable def isNone:AV->Bool
 | .raw .none=>true
 |_=>false
theorem G5{P:PM}(r:RepV p P a v):(v==Value.none)=isNone a:=by
 cases r with
 |raw v=>cases v<;>rfl
 |_=>rfl
theorem GH(h:Q (.raw (.bool (isNone a))) σ):cD n σ (eU .Is a (.raw .none)) Q:=by
 rintro af m A X P s c hA T ⟨u,v,ru,rv,rfl⟩
 cases rv
 exact is_none (aC.now T (.raw _) (by rw[G5 ru];exact h))
theorem rY(h:Q (.raw (.bool (!isNone a))) σ):cD n σ (eU .IsNot a (.raw .none)) Q:=by
 rintro af m A X P s c hA T ⟨u,v,ru,rv,rfl⟩
 cases rv
 exact isNot_none (aC.now T (.raw _) (by rw[G5 ru];exact h))
theorem Q0{x:AV}(e:Value->Bool)(r:RepL p iu l vs):(∀a u,a∈l->RepV p iu a u->e u=decide (a=x))->vs.any e=decide (x∈l):=by
 induction r using RepL.ind with
 |h0=>exactλω=>(cu jf).symm
 | @h1 a v l vs ra rl ih=>
  intro he
  rw[ae.any_cons,he a _ (.head _) ra,ih λb w hb=>he b w (.tail _ hb),<- Bool.decide_or]
  exact AB.mpr ⟨λh=>h.elim (λh=>h▸ .head _) (.tail _),λh=>(aY.mp h).imp_left Eq.symm⟩
theorem HU{x:AV}(r:RepL G.w.params iu l items.toList)(e:Value->Bool)
  (he: ∀a u,a∈l->RepV G.w.params iu a u->e u=decide (a=x)):items.any e=decide (x∈l):=by
 rw[<- FC];exact Q0 e r he
noncomputable def u4(p:bg)(P:PM)(k:Nat)(x:AV)(u:Value):Bool:=decide (∃a,aM k a/\RepV p P a u/\a=x)
theorem A'{x:AV}{u:Value}(d:aM k a)(r:RepV p iu a u):u4 p iu k x u=decide (a=x):=by
 unfold u4
 by_cases h:a=x
 .rw[decide_eq_true h];exact decide_eq_true ⟨a,d,r,h⟩
 .rw[cu h]
  refine cu λ⟨b,db,rb,e⟩=>h ?_
  rw[yc k a b u d db r rb];exact e
theorem IH(I:bD X iu σ s){x:AV}(r:RepL G.w.params iu l items.toList)(rx:RepV G.w.params iu x v)(d: ∀a∈l,aM k a)(dx:aM k x)(hu:A.units+k<cLine):
  ∀y,y∈items->ft A s y v (u4 G.w.params iu k x y):=λy hy=>by
 have lO:y∈items.toList:=by simpa using hy
 obtain⟨j,hj,rfl⟩:=Fn.mp lO
 obtain⟨g,q⟩:=r.at hj
 rw[A' (d _ (gK g)) q]
 exact tu I.p k _ _ _ _ A (d _ (gK g)) dx q rx hu
theorem uh{x:AV}(d: ∀a∈l,aM 8 a)(dx:aM 8 x)(h:Q (.raw (.bool (!decide (x∈l)))) σ):cD n σ (eU .NotIn x (.tup l)) Q:=by
 rintro af m A X P s c hA T ⟨u,v,ru,rv,rfl⟩
 obtain⟨a,items,c,rfl,hh,r⟩:=lx T.inv rv
 refine notIn_tupleAt (u4 G.w.params P 8 x) ⟨_,hh,rfl,_,rfl⟩ (IH T.inv r ru d dx (by have:=hA.deep (k:=10) (by decide);simp;lia)) (aC.now T (.raw _) ?_)
 rw[HU r _ λa u ha ra=>A' (d a ha) ra];exact h
theorem Pd{x:AV}(d: ∀a∈l,aM 8 a)(dx:aM 8 x)(h:Q (.raw (.bool (!decide (x∈l)))) σ):cD n σ (eU .NotIn x (.lst l)) Q:=by
 rintro af m A X P s c hA T ⟨u,v,ru,rv,rfl⟩
 obtain⟨a,items,c,rfl,hh,r⟩:=u3 T.inv rv
 refine notIn_listAt (u4 G.w.params P 8 x) ⟨_,hh,rfl,_,rfl⟩ (IH T.inv r ru d dx (by have:=hA.deep (k:=10) (by decide);simp;lia)) (aC.now T (.raw _) ?_)
 rw[HU r _ λa u ha ra=>A' (d a ha) ra];exact h
theorem uy(hz:l.length+l'.length<=sizeLine)(h:Q (.tup (l++l')) σ):cD n σ (my .Add (.tup l) (.tup l')) Q:=by
 rintro af m A X P s c hA T ⟨u,v,ru,rv,rfl⟩
 obtain⟨a,items,c,rfl,hh,r⟩:=lx T.inv ru
 obtain⟨a',bW,c',rfl,nZ,r'⟩:=lx T.inv rv
 have e1:items.size=l.length:=by rw[<- ck,<- r.length]
 have e2:bW.size=l'.length:=by rw[<- ck,<- r'.length]
 by_cases h1:l=[]
 .subst h1
  have:items.isEmpty=true:=by simpa [xf] using e1
  exact concat_meets ⟨_,hh,rfl⟩ ⟨_,nZ,rfl⟩ Og OS PySem.F.slot_tuple_add PySem.F.entry_tuple_add (PySem.F.args_tuple_add_2 _ _)
   (tuple_addW0 a a' items bW c c' none none #[] #[] this) ⟨hh,nZ,aC.now T rv h⟩
 .by_cases h2:l'=[]
  .subst h2
   have:bW.isEmpty=true:=by simpa [xf] using e2
   have n1: ¬items.isEmpty=true:=by simp only[xf,e1];simpa using h1
   exact concat_meets ⟨_,hh,rfl⟩ ⟨_,nZ,rfl⟩ Og OS PySem.F.slot_tuple_add PySem.F.entry_tuple_add (PySem.F.args_tuple_add_2 _ _)
    (tuple_addW1 a a' items bW c c' none none #[] #[] n1 this) ⟨hh,nZ,aC.now T (by simpa using ru) (by simpa using h)⟩
  .have n1: ¬items.isEmpty=true:=by simp only[xf,e1];simpa using h1
   have n2: ¬bW.isEmpty=true:=by simp only[xf,e2];simpa using h2
   refine PySem.P.add_tuple hh nZ n1 n2 ?_ (DD e1 e2 hz)
   refine T.frozen (t:=s.toks) (o:=dE (items++bW) 0) rfl (λa o e=>Heap.get?_push_of_some _ e) (Heap.get?_push_size _ rfl) λP' hP e T'=>?_
   exact⟨P',σ,_,hP,T',.tup e (by simpa using(r.append r').mono hP),h⟩
inductive eT(σ:ah):AV->ae AV->Prop
 |lst (l:ae AV):eT σ (.lst l) l
 |ref {a:Addr} {l:ae AV} (h:σ a=some (.list l)):eT σ (.raw (.ref a)) l
theorem eT.is(L:eT σ a l)(I:bD X P σ s)(r:RepV G.w.params P a v): ∃a items k,v= .ref a/\s.heap.get? a=some (cw items k)/\RepL G.w.params P l items.toList:=by
 cases L with
 |lst=>exact u3 I r
 |ref h=>
  cases r
  obtain⟨o,ho,ro⟩:=I.st _ _ h
  cases ro
  exact⟨_,_,_,rfl,ho,by assumption⟩
theorem uA(L:eT σ a l)(L':eT σ b l')(hz:l.length+l'.length<=sizeLine)(h:Q (.lst (l++l')) σ):cD n σ (my .Add a b) Q:=by
 rintro af m A X P s c hA T ⟨u,v,ru,rv,rfl⟩
 obtain⟨a,items,c,rfl,hh,r⟩:=L.is T.inv ru
 obtain⟨a',bW,c',rfl,nZ,r'⟩:=L'.is T.inv rv
 have e1:items.size=l.length:=by rw[<- ck,<- r.length]
 have e2:bW.size=l'.length:=by rw[<- ck,<- r'.length]
 refine PySem.P.add_list hh nZ ?_ (DD e1 e2 hz)
 refine T.frozen (t:=s.toks) (o:=cw (items++bW) 0) rfl (λa o e=>Heap.get?_push_of_some _ e) (Heap.get?_push_size _ rfl) λP' hP e T'=>?_
 exact⟨P',σ,_,hP,T',.lst e (by simpa using(r.append r').mono hP),h⟩
theorem Pv(L:eT σ a l)(L':eT σ b l')(hz:l.length+l'.length<=sizeLine)(h: ∀a,σ a=none->Q (.raw (.ref a)) (aA σ a (.list (l++l')))):cD n σ (my .Add a b) Q:=by
 rintro af m A X P s c hA T ⟨u,v,ru,rv,rfl⟩
 obtain⟨a,items,c,rfl,hh,r⟩:=L.is T.inv ru
 obtain⟨a',bW,c',rfl,nZ,r'⟩:=L'.is T.inv rv
 have e1:items.size=l.length:=by rw[<- ck,<- r.length]
 have e2:bW.size=l'.length:=by rw[<- ck,<- r'.length]
 refine PySem.P.add_list hh nZ ?_ (DD e1 e2 hz)
 have T':=T.alloc (t:=s.toks) (ao:= .list (l++l')) (o:=cw (items++bW) 0) rfl (λa o e=>Heap.get?_push_of_some _ e) (Heap.get?_push_size _ rfl) (.list (by simpa using r.append r'))
 exact⟨P,_,_,PM.le.refl P,T',.raw _,h _ T.inv.fresh.1⟩
theorem dL(L:lD a l\/eT σ a l)(hz:l.length<2^63)(h:Q (.int l.length) σ):cK n (.builtin "len") [a] σ Q:=by
 intro A X P s vs hA I r
 cases r using RepL.consE with
 |cons r rs=>
 cases rs
 rcases L with L |L
 .cases L with
  |tup=>
   obtain⟨a,items,c,rfl,hh,r⟩:=lx I r
   have e1:items.size=l.length:=by rw[<- ck,<- r.length]
   exact len_tuple ⟨_,hh,rfl,_,rfl⟩ (DE e1 hz) ⟨P,σ,_,PM.le.refl P,I.tok _,.int _ _,by rw[e1];exact h⟩
  |lst=>
   obtain⟨a,items,c,rfl,hh,r⟩:=u3 I r
   have e1:items.size=l.length:=by rw[<- ck,<- r.length]
   exact OR ⟨_,hh,rfl,_,rfl⟩ (DE e1 hz) ⟨P,σ,_,PM.le.refl P,I.tok _,.int _ _,by rw[e1];exact h⟩
 .obtain⟨a,items,c,rfl,hh,r⟩:=L.is I r
  have e1:items.size=l.length:=by rw[<- ck,<- r.length]
  exact OR ⟨_,hh,rfl,_,rfl⟩ (DE e1 hz) ⟨P,σ,_,PM.le.refl P,I.tok _,.int _ _,by rw[e1];exact h⟩
theorem P6(hz:x.length<2^63)(h:Q (.int x.length) σ):cK n (.builtin "len") [.str x] σ Q:=by
 intro A X P s vs hA I r
 cases r using RepL.consE with
 |cons r rs=>
 cases rs;cases r
 exact PySem.P.len_str (by lia) ⟨P,σ,_,PM.le.refl P,I.tok _,.int _ _,h⟩
def mD(value slice:Expr)(a b:AV):PM->bw Value->Prop:=λP t=> ∃u v,RepV G.w.params P a u/\RepV G.w.params P b v/\t=FT value slice u v
abbrev X_(n:Nat)(value slice:Expr)(a:AV)(Q:AV->ah->Prop):AV->ah->Prop:=λb σ=>cD n σ (mD value slice a b) Q
abbrev Ya(n:Nat)(af:Env)(value slice:Expr)(m:au)(Q:AV->ah->Prop):AV->ah->Prop:=λa σ=>aQ n af slice m σ (X_ n value slice a Q)
theorem bh{pos:Pos}(h:aQ n af value m σ (Ya n af value slice m Q)):aQ n af (.Subscript value slice pos) m σ Q:=by
 intro A X P s hA T
 refine Subscript_ (aC.with (h A X P s hA T) λv aH aR ap a aJ aL bF aD=>?_)
 refine aC.with (aD A X aR aH hA aL) λu aV bA aO b bm ba b_ aI=>?_
 exact aC.lift (aJ.trans bm) (aI af m A X bA aV _ hA ba ⟨v,u,bF.mono bm,b_,rfl⟩)
theorem xU{o i:Value}{T id:dK}{Q:Value->Shared->Prop}(hT:s.TypeIs o T)(hl:uo (.type T) "__getitem__"=pure (some (.builtin id)))
  (hs:subscripted slice false o i=operate [o,i] (jk o i)) (h:ai GM A (jk o i) Q E s):ai GM A (FT value slice o i) Q E s:=by
 unfold FT
 refine wb ?_
 rw[Nq hT.not_modules]
 refine wb (lU hT hl ?_)
 refine aq (wb ?_)
 rw[hs]
 exact FP (bT h (λr eJ bK=>wb (Ca (aq bK))) λω ω x=>x)
theorem dC{i:aj}(hs: ∀o i,subscripted slice false o i=operate [o,i] (jk o i))(h0:0<=i)(hz:l.length<2^63)(ha:l[i.toNat]? =some a)(h:Q a σ):cD n σ (mD value slice (.tup l) (.int i)) Q:=by
 rintro af m A X P s c hA T ⟨u,v,ru,rv,rfl⟩
 obtain⟨t,items,c,rfl,hh,r⟩:=lx T.inv ru
 cases rv
 obtain⟨y,hy,ry⟩:=r.get ha
 have e1:items.size=l.length:=by rw[<- ck,<- r.length]
 have bj:i.toNat<l.length:=(cV.mp ha).1
 have hT:s.TypeIs (.ref t) "tuple":=⟨_,hh,rfl⟩
 have hi:i<(l.length:aj):=(aj.toNat_lt h0).mp bj
 refine xU hT PySem.F.slot_tuple_getitem.lookup (hs _ _) (PySem.P.getItem_tuple hh (aj.le_trans (by decide) h0) (aj.lt_trans hi (iP.mpr hz)) (k:=i.toNat) ?_ (by rw[<- dR];exact hy) (aC.now T ry h))
 unfold A7
 have e0: ¬i<0:=uq.mpr h0
 simp only[e0,if_false]
 exact if_pos (Bool.and_eq_true_iff.mpr ⟨decide_eq_true h0,decide_eq_true (e1▸hi)⟩)
theorem g9{i:aj}(L:eT σ b l)(hs: ∀o i,subscripted slice false o i=operate [o,i] (jk o i))(h0:0<=i)(hz:l.length<2^63)(ha:l[i.toNat]? =some a)(h:Q a σ):cD n σ (mD value slice b (.int i)) Q:=by
 rintro af m A X P s c hA T ⟨u,v,ru,rv,rfl⟩
 obtain⟨t,items,c,rfl,hh,r⟩:=L.is T.inv ru
 cases rv
 obtain⟨y,hy,ry⟩:=r.get ha
 have bj:i.toNat<l.length:=(cV.mp ha).1
 have hT:s.TypeIs (.ref t) "list":=⟨_,hh,rfl⟩
 exact xU hT NZ.lookup (hs _ _) (wpAny_getItem_list ⟨_,hh,rfl,_,rfl⟩ h0 (by lia) (by rw[<- dR];exact hy) (aC.now T ry h))
end
mutual
noncomputable def fK:AV->AV->Prop
 | .int _,.int _=>True
 | .str _,.str _=>True
 | .tup l,.tup l'=>h_ l l'
 |_,_=>False
noncomputable def h_:ae AV->ae AV->Prop
 |a::l,b::l'=>(a=b->h_ l l')/\(a≠b->fK a b)
 |_,_=>True
end
mutual
noncomputable def cN:AV->AV->Bool
 | .int i,.int j=>decide (i<j)
 | .str i,.str j=>decide (i.cps.toList<j.cps.toList)
 | .tup l,.tup l'=>jS l l'
 |_,_=>false
noncomputable def jS:ae AV->ae AV->Bool
 |a::l,b::l'=>if a=b then jS l l' else cN a b
 |[],_::_=>true
 |_,[]=>false
end
def jT(A:bo)(s:Shared)(y x:Value)(b:Bool):Prop:=
 ∀(prog:Program) (w:World) (E:Value->Shared->Prop) (Q:Value->Shared->Prop),Q (.bool b) s->ai (model prog w) A (richCompare .Lt y x) Q E s
noncomputable def qJ(e f:Nat->Bool)(fin:Bool):Nat->Nat->Bool
 |_,0=>fin
 |i,k+1=>if e i then qJ e f fin (i+1) k else f i
theorem Pw(l b:Addr)(items dm:ay Value)(n n2:Nat)(dd Yb:aB Addr)(sl Yc:ay (aB Value))(e f:Nat->Bool):
  sL (cF.«tuple.__lt__» ⟨[.ref l,.ref b],[]⟩)
   (λA R s=>s.heap.get? l=some {cls:= .type "tuple",dict:=dd,data:= .seq items n,slots:=sl}/\s.heap.get? b=some {cls:= .type "tuple",dict:=Yb,data:= .seq dm n2,slots:=Yc}/\
    (∀j (h1:j<items.size) (h2:j<dm.size),ft A.in1 s items[j] dm[j] (e j))/\
    (∀j (h1:j<items.size) (h2:j<dm.size),(∀i,i<j->e i=true)->e j=false->jT A.in1 s items[j] dm[j] (f j))/\
    R (.ok (.ret (.bool (qJ e f (decide (items.size<dm.size)) 0 (min items.size dm.size))))) s):=
 .of_wp λprog w A R s h=>by
  obtain⟨hp,g,d,tk,os⟩:=s;obtain⟨hl,hb,he,hf,h⟩:=h
  have f2:=AutoSeq1.sub_tuple_tuple
  have hZ:(items.toList.zip dm.toList).length=min items.size dm.size:=ae.length_zip
  wp_walk using OA hl,OA hb,Fy _ (λrest b s'=>b.1=none/\s'=⟨hp,g,d,tk,os⟩/\ ∃i,rest=(items.toList.zip dm.toList).drop i/\(∀j,j<i->e j=true)/\
   R (.ok (.ret (.bool (qJ e f (decide (items.size<dm.size)) i (min items.size dm.size - i))))) ⟨hp,g,d,tk,os⟩) _
  case turn=>
   rintro⟨y,x⟩ rest b s' ⟨n_,rfl,i,hz,ph,hR⟩
   have bj:i<(items.toList.zip dm.toList).length:=by
    rcases Nat.lt_or_ge i (items.toList.zip dm.toList).length with h' |h'
    .exact h'
    .rw[ae.drop_of_length_le h'] at hz;cases hz
   have hm:i<min items.size dm.size:=hZ▸bj
   have h1:i<items.size:=Nat.lt_of_lt_of_le hm (Nat.min_le_left _ _)
   have h2:i<dm.size:=Nat.lt_of_lt_of_le hm (Nat.min_le_right _ _)
   rw[E7 bj] at hz
   injection hz with Yd Vz
   obtain⟨hy,hx⟩:=Prod.mk.inj (Yd.trans ae.getElem_zip)
   replace hy:y=items[i]:=hy
   replace hx:x=dm[i]:=hx
   subst hy hx
   have hd:min items.size dm.size - i=(min items.size dm.size - (i+1))+1:=(Nat.sub_add_cancel (Nat.sub_pos_of_lt hm)).symm
   rw[hd] at hR
   replace hR:R (.ok (.ret (.bool (if e i then qJ e f (decide (items.size<dm.size)) (i+1) (min items.size dm.size - (i+1)) else f i)))) ⟨hp,g,d,tk,os⟩:=hR
   refine wb (he i h1 h2 prog w _ _ ?_)
   cases hy:e i with
   |true=>
    rw[hy] at hR
    wp_walk
    refine⟨rfl,rfl,i+1,Vz,λj hj=>?_,hR⟩
    rcases Nat.lt_succ_iff_lt_or_eq.mp hj with q |q
    .exact ph j q
    .exact q▸hy
   |false=>
    rw[hy] at hR
    have C9:=hf i h1 h2 ph hy prog w
    repeat (first |(refine wb (C9 _ _ ?_)) |wp_step)
    exact⟨_,rfl,hR⟩
  case fin=>
   rintro⟨b1,b2⟩ s' ⟨n_,rfl,i,hz,_,hR⟩
   simp only at n_
   subst n_
   have j4:min items.size dm.size<=i:=by
    rcases Nat.lt_or_ge i (items.toList.zip dm.toList).length with h' |h'
    .rw[E7 h'] at hz;cases hz
    .exact hZ▸h'
   rw[Nat.sub_eq_zero_of_le j4] at hR
   wp_walk
   exact⟨_,rfl,hR⟩
  case h=>
   exact⟨rfl,rfl,0,rfl,λj hj=>ax hj (Nat.not_lt_zero _),by simpa using h⟩
theorem jT.tuples{A:bo}{s:Shared}{l b:Addr}{dm:ay Value}{n n2:Nat}{e f:Nat->Bool}(ho:s.heap.get? l=some (dE items n))(K9:s.heap.get? b=some (dE dm n2))(hu:A.units<cLine)
  (he: ∀j (h1:j<items.size) (h2:j<dm.size),ft A.in1 s items[j] dm[j] (e j))
  (hf: ∀j (h1:j<items.size) (h2:j<dm.size),(∀i,i<j->e i=true)->e j=false->jT A.in1 s items[j] dm[j] (f j)):
  jT A s (.ref l) (.ref b) (qJ e f (decide (items.size<dm.size)) 0 (min items.size dm.size)):=λprog w E Q h=>by
 exact richCompare_meets_room (op:= .Lt) ⟨_,ho,rfl⟩ ⟨_,K9,rfl⟩ F.slot_tuple_lt F.entry_tuple_lt (F.args_tuple_lt_2 _ _) (Pw l b items dm n n2 none none #[] #[] e f)
  ⟨ho,K9,he,hf,show Value.bool _≠Value.notImplemented/\Q _ s from⟨(λx=>nomatch x),h⟩⟩ hu
theorem II: ∀(l l':ae AV) (i:Nat) (e f:Nat->Bool),(∀j (h1:j<l.length) (h2:j<l'.length),e (i+j)=decide (l[j]=l'[j]))->(∀j (h1:j<l.length) (h2:j<l'.length),f (i+j)=cN l[j] l'[j])->
  qJ e f (decide (l.length<l'.length)) i (min l.length l'.length)=jS l l'
 |[],[],i,e,f,_,_=>rfl
 |[],_::_,i,e,f,_,_=>rfl
 |_::_,[],i,e,f,_,_=>rfl
 |a::l,b::l',i,e,f,he,hf=>by
  have h0:=he 0 (Nat.succ_pos _) (Nat.succ_pos _)
  have f0:=hf 0 (Nat.succ_pos _) (Nat.succ_pos _)
  rw[show min (a::l).length (b::l').length=min l.length l'.length+1 from Nat.succ_min_succ ..]
  show(if e i then qJ e f (decide (l.length+1<l'.length+1)) (i+1) (min l.length l'.length) else f i)=if a=b then jS l l' else cN a b
  rw[show e i=decide (a=b) from h0,show f i=cN a b from f0,show decide (l.length+1<l'.length+1)=decide (l.length<l'.length) from AB.mpr Nat.succ_lt_succ_iff]
  by_cases q:a=b
  .rw[decide_eq_true q,if_pos rfl,if_pos q]
   exact II l l' (i+1) e f (λj h1 h2=>(congrArg e (Nat.succ_add i j)).trans (he (j+1) (Nat.succ_lt_succ h1) (Nat.succ_lt_succ h2))) λj h1 h2=>(congrArg f (Nat.succ_add i j)).trans (hf (j+1) (Nat.succ_lt_succ h1) (Nat.succ_lt_succ h2))
  .rw[cu q,aK Bool.false_ne_true,aK q]
theorem IJ: ∀(l l':ae AV),h_ l l'-> ∀j (h1:j<l.length) (h2:j<l'.length),(∀i (g1:i<l.length) (g2:i<l'.length),i<j->l[i]=l'[i])->l[j]≠l'[j]->fK l[j] l'[j]
 |[],_,_,j,h1,_,_,_=>ax h1 (Nat.not_lt_zero _)
 |_::_,[],_,j,_,h2,_,_=>ax h2 (Nat.not_lt_zero _)
 |a::l,b::l',h,0,h1,h2,_,hn=>(show(a=b->h_ l l')/\(a≠b->fK a b) from h).2 hn
 |a::l,b::l',h,j+1,h1,h2,hp,hn=>IJ l l' ((show(a=b->h_ l l')/\(a≠b->fK a b) from h).1 (hp 0 (Nat.succ_pos _) (Nat.succ_pos _) (Nat.succ_pos _))) j (Nat.lt_of_succ_lt_succ h1) (Nat.lt_of_succ_lt_succ h2) (λi g1 g2 gi=>hp (i+1) (Nat.succ_lt_succ g1) (Nat.succ_lt_succ g2) (Nat.succ_lt_succ gi)) hn
section
variable{n:Nat}{X P:PM}{σ:ah}{s:Shared}{A:bo}{Q:AV->ah->Prop}
theorem SY{i j:aj}{t u:el}:jT A s (.int i t) (.int j u) (decide (i<j)):=λprog w E Q h=>by
 exact PySem.P.lt_int h
theorem SZ{i j:Str}{t u:el}:jT A s (.str i t) (.str j u) (decide (i.cps.toList<j.cps.toList)):=λprog w E Q h=>by
 exact PySem.P.lt_str h
theorem P7{C:AV->AV->Prop}(ii: ∀i j,C (.int i) (.int j))(ss: ∀i j,C (.str i) (.str j))(tt: ∀l l',h_ l l'->C (.tup l) (.tup l'))(h:fK a b):C a b:=by
 cases a with
 |int i=>cases b with
  |int j=>exact ii i j
  |_=>exact False.elim h
 |str i=>cases b with
  |str j=>exact ss i j
  |_=>exact False.elim h
 |tup l=>cases b with
  |tup l'=>exact tt l l' h
  |_=>exact False.elim h
 |_=>exact False.elim h
theorem qw: ∀l:ae AV,h_ [] l
 |[]=>True.intro
 |_::_=>True.intro
theorem jm(h:a=b->h_ l l')(k:a≠b->fK a b):h_ (a::l) (b::l'):=⟨h,k⟩
theorem ct(h:h_ l l'):fK (.tup l) (.tup l'):=h
theorem ci(i j:aj):fK (.int i) (.int j):=True.intro
theorem vN(i j:Str):fK (.str i) (.str j):=True.intro
theorem BJ{p:bg}{P:PM}(d:aM k (.tup l)): ∀x∈l,∃j,j+1=k/\aM j x:=by
 cases d with |tup h=>exactλx hx=>⟨_,rfl,h x hx⟩
theorem S0(I:P.le s.heap.get?)(ih: ∀x y u v A,(∃j,j+1=k/\aM j x)->(∃j,j+1=k/\aM j y)->RepV G.w.params P x u->RepV G.w.params P y v->fK x y->A.units+k<cLine+1->jT A s u v (cN x y)){a a':Addr}{bW:ay Value}{c c':Nat}
  (d: ∀x∈l,∃j,j+1=k/\aM j x) (d': ∀x∈l',∃j,j+1=k/\aM j x) (hc:h_ l l')
  (h:P a=some (dE items c)) (r:RepL G.w.params P l items.toList) (h':P a'=some (dE bW c')) (r':RepL G.w.params P l' bW.toList) (hu:A.units+k<cLine):jT A s (.ref a) (.ref a') (jS l l'):=by
 have e1:items.size=l.length:=by rw[<- ck,<- r.length]
 have e2:bW.size=l'.length:=by rw[<- ck,<- r'.length]
 have K_:A.in1.units+k<cLine+1:=by show A.units+1+k<_;rw[Nat.add_right_comm];exact Nat.succ_lt_succ hu
 have key:=jT.tuples (A:=A) (s:=s) (e:=λj=>decide (l[j]? =l'[j]?)) (f:=λj=>cN (l[j]?.getD (.int 0)) (l'[j]?.getD (.int 0))) (I _ _ h) (I _ _ h') (Nat.lt_of_le_of_lt (Nat.le_add_right _ k) hu) (λj h1 h2=>by
  obtain⟨g1,q1⟩:=r.at (j:=j) h1
  obtain⟨g2,q2⟩:=r'.at (j:=j) h2
  rw[uT g1 g2]
  obtain⟨j0,e,x1⟩:=d _ (gK g1)
  obtain⟨j1,e',x2⟩:=d' _ (gK g2)
  subst e
  exact tu I j0 _ _ _ _ A.in1 x1 (Nat.succ.inj e'▸x2) q1 q2 (Nat.lt_of_succ_lt_succ K_)) (λj h1 h2 ph hj=>by
  obtain⟨g1,q1⟩:=r.at (j:=j) h1
  obtain⟨g2,q2⟩:=r'.at (j:=j) h2
  rw[cL g1,cL g2]
  rw[uT g1 g2] at hj
  exact ih _ _ _ _ A.in1 (d _ (gK g1)) (d' _ (gK g2)) q1 q2 (IJ l l' hc j g1 g2 (λi i1 i2 hi=>by
   have:=ph i hi
   rw[uT i1 i2] at this
   exact k9 this) (Av hj)) K_)
 rw[e1,e2,II l l' 0 (λj=>decide (l[j]? =l'[j]?)) (λj=>cN (l[j]?.getD (.int 0)) (l'[j]?.getD (.int 0))) (λj h1 h2=>by
  rw[Nat.zero_add];exact uT h1 h2) (λj h1 h2=>by
  rw[Nat.zero_add,cL h1,cL h2];rfl)] at key
 exact key
theorem La(I:P.le s.heap.get?)(k:Nat): ∀(a b:AV) (u v:Value) (A:bo),aM k a->aM k b->RepV G.w.params P a u->RepV G.w.params P b v->fK a b->A.units+k<cLine->jT A s u v (cN a b):=by
 have go: ∀k,(∀x y u v A,(∃j,j+1=k/\aM j x)->(∃j,j+1=k/\aM j y)->RepV G.w.params P x u->RepV G.w.params P y v->fK x y->A.units+k<cLine+1->jT A s u v (cN x y))->
   ∀(a b:AV) (u v:Value) (A:bo),aM k a->aM k b->RepV G.w.params P a u->RepV G.w.params P b v->fK a b->A.units+k<cLine->jT A s u v (cN a b):=λk ih a b u v A da db ra rb hc hu=>by
  refine P7 (C:=λa b=>aM k a->aM k b->RepV G.w.params P a u->RepV G.w.params P b v->jT A s u v (cN a b)) (λi j ω ω ra rb=>?_) (λi j ω ω ra rb=>?_) (λl l' hc da db ra rb=>?_) hc da db ra rb
  .cases ra;cases rb;exact SY
  .cases ra;cases rb;exact SZ
  .cases ra using RepV.tupE with |tup h r=>
   cases rb using RepV.tupE with |tup h' r'=>
   exact S0 I ih (BJ (p:=G.w.params) (P:=P) da) (BJ (p:=G.w.params) (P:=P) db) hc h r h' r' hu
 induction k with
 |zero=>exact go 0 λ_ _ _ _ _ ⟨_,e,_⟩=>nomatch e
 |succ k ih=>exact go (k+1) λ_ _ u v A ⟨_,e,d⟩ ⟨_,e',d'⟩ r r' hc hu=>ih _ _ u v A (Nat.succ.inj e▸d) (Nat.succ.inj e'▸d') r r' hc (Nat.lt_of_succ_lt_succ hu)
end
noncomputable abbrev KA:=ay cI
noncomputable def HV:Bool->cI->ay cI->Nat->Nat->Nat->cW aG bw (aB Nat):=sortPriv%PySem.Builtin.gallop
noncomputable def G6:ay cI->ay cI->cW aG bw (ay cI):=sortPriv%PySem.Builtin.mergeLo
noncomputable def G7:ay cI->ay cI->cW aG bw (ay cI):=sortPriv%PySem.Builtin.mergeHi
noncomputable def OW:Nat->cW aG bw Unit:=sortPriv%PySem.Builtin.setMinGallop
section
variable{prog:Program}{w:World}{A:bo}{E:Value->Shared->Prop}{s:Shared}{a₀:ay cI}{κ:fV}
def gq(prog:Program)(w:World)(A:bo)(κ:fV)(s:Shared)(a₀:ay cI):Prop:=
 ∀x∈a₀,∀y∈a₀,∀(E:Value->Shared->Prop) (Q:Bool->Shared->Prop),(∀b,Q b s)->ai (model prog w) A (keyLt' κ x.1 y.1) Q E s
structure WB(a₀:ay cI)(κ:fV)(st:aG):Prop where
 size:(cG st).size=a₀.size
 sub: ∀x∈cG st,x∈a₀
 small:a₀.size<64->(cG st).Perm a₀
 kind:kindOf st=κ
 failed:se st=none
theorem WB.set{st:aG}(h:WB a₀ κ st){xs:ay cI}(hp:xs.Perm (cG st)):WB a₀ κ (setArr st xs):=
 ⟨hp.size_eq.trans h.size,λx hx=>h.sub x (hp.mem_iff.mp hx),λq=>hp.trans (h.small q),h.kind,h.failed⟩
theorem w_lt{st:aG}{x y:cI}{Q:aB Bool->aG->Prop}(C:gq prog w A κ s a₀)(hk:kindOf st=κ)(hx:x∈a₀)(hy:y∈a₀)(h: ∀b,Q (some b) st):cC (model prog w) A E s (lt' x y) Q st:=by
 rw[lt'_eq]
 refine eF (nC ?_)
 rw[hk]
 exact eF (r_ (lq (C x hx y hy _ _ λb=>⟨rfl,br (h b)⟩)))
theorem w_elem{σ:aG}{arr:ay cI}{Q:cI->aG->Prop}(hi:i<arr.size)(h:Q arr[i] σ):cC (model prog w) A E s (elem' arr i) Q σ:=by
 rw[elem'_eq,p9 arr i hi];exact br h
theorem w_ltAt{st:aG}{Q:aB Bool->aG->Prop}(C:gq prog w A κ s a₀)(B:WB a₀ κ st)(hi:i<a₀.size)(hj:j<a₀.size)(h: ∀b,Q (some b) st):cC (model prog w) A E s (ltAt' i j) Q st:=by
 rw[ltAt'_eq]
 refine wt (nC ?_)
 have dT:i<(cG st).size:=by rw[B.size];exact hi
 have qW:j<(cG st).size:=by rw[B.size];exact hj
 exact wt (w_elem dT (wt (w_elem qW (w_lt C B.kind (B.sub _ (t7 dT)) (B.sub _ (t7 qW)) h))))
theorem w_reverse{st:aG}{Q:Unit->aG->Prop}(B:WB a₀ κ st)(h: ∀an,WB a₀ κ an->cb an=cb st->Q () an):cC (model prog w) A E s (reverseSlice' i j) Q st:=by
 rw[reverseSlice'_eq];exact r3 (h _ (B.set (mirror_perm _ _ _ _)) rfl)
theorem w_move{st:aG}{Q:Unit->aG->Prop}(B:WB a₀ κ st)(h: ∀an,WB a₀ κ an->cb an=cb st->Q () an):cC (model prog w) A E s (moveDown' i j) Q st:=by
 rw[moveDown'_eq];exact r3 (h _ (B.set (bubble_perm _ _ _)) rfl)
theorem gz{a b:Nat}(h: ¬(a==b)=true):a≠b:=λe=>h (e▸ni a)
theorem cB{σ:Type}{M:Model}{c:Prop}[ux c]{a b:cW σ bw α}{Q:α->σ->Prop}{st:σ}(h1:c->cC M A E s a Q st)(h2: ¬c->cC M A E s b Q st):cC M A E s (if c then a else b) Q st:=by
 split
 .exact h1 ‹_›
 .exact h2 ‹_›
inductive gE{β:Type}(I Q:β->aG->Prop):e_ β->aG->Prop
 |done {c:β} {st:aG} (h:Q c st):gE I Q (.done c) st
 |yield {c:β} {st:aG} (h:I c st):gE I Q (.yield c) st
theorem w_loop{γ:Type}{M:Model}{f:Nat->β->cW aG bw (e_ β)}{k:β->cW aG bw γ}{R:γ->aG->Prop}(I:Nat->β->aG->Prop)(Q:β->aG->Prop)
  (step: ∀i c st,i<n->I i c st->cC M A E s (f i c) (gE (I (i+1)) Q) st) (fin: ∀c st,I n c st->Q c st) {c:β} {st:aG} (h:I 0 c st) (post: ∀c st,Q c st->cC M A E s (k c) R st):cC M A E s (gO [:n] c f>>=k) R st:=
 wt (uD (AM I (λi c st ω hi hI=>uD (step i c st hi hI) λr an x=>by cases x<;>assumption) (λc st q=>fin c st (Nat.max_eq_right (Nat.zero_le n)▸q)) h) post)
theorem w_loopR{γ:Type}{a:Nat}{M:Model}{f:Nat->β->cW aG bw (e_ β)}{k:β->cW aG bw γ}{R:γ->aG->Prop}(I:Nat->β->aG->Prop)(Q:β->aG->Prop)(ha:a<=n)
  (step: ∀i c st,i<n->I i c st->cC M A E s (f i c) (gE (I (i+1)) Q) st) (fin: ∀c st,I n c st->Q c st) {c:β} {st:aG} (h:I a c st) (post: ∀c st,Q c st->cC M A E s (k c) R st):cC M A E s (gO [a:n] c f>>=k) R st:=
 wt (uD (AM I (λi c st ω hi hI=>uD (step i c st hi hI) λr an x=>by cases x<;>assumption) (λc st q=>fin c st (Nat.max_eq_right ha▸q)) h) post)
noncomputable abbrev qX:=aB (aB Nat)×Nat
noncomputable abbrev Lb:=aB (aB Nat)×Nat×Nat
noncomputable def DF:(f:Nat->Nat->qX->cW aG bw (e_ qX))×' {g:Nat->Nat->qX->cW aG bw (aB Nat)// ∀lo i8,Gx lo i8=(gO [1:i8] ((none,1):qX) (f lo)>>=g lo i8)}:=⟨_,_,λlo i8=>countRun'_eq lo i8⟩
inductive CI(st:aG)(x:Nat):qX->aG->Prop
 |mk (h:1<=x):CI st x (none,x) st
inductive CQ(st:aG)(n:Nat):qX->aG->Prop
 |mk {m:Nat} (h1:1<=m) (h2:m<=n):CQ st n (none,m) st
inductive DG(a₀:ay cI)(κ:fV)(st:aG)(x:Nat):Lb->aG->Prop
 |mk {q:Nat} {an:aG} (h:1<=x) (B:WB a₀ κ an) (p:cb an=cb st):DG a₀ κ st x (none,x,q) an
inductive DH(a₀:ay cI)(κ:fV)(st:aG)(n:Nat):Lb->aG->Prop
 |mk {m q:Nat} {an:aG} (h1:1<=m) (h2:m<=n) (B:WB a₀ κ an) (p:cb an=cb st):DH a₀ κ st n (none,m,q) an
theorem sD{lo x z:Nat}(h:lo+n<=z)(k:x<n):lo+x<z/\lo+x - 1<z:=
 have q:=Nat.lt_of_lt_of_le (Nat.add_lt_add_left k lo) h
 ⟨q,Nat.lt_of_le_of_lt (Nat.sub_le _ _) q⟩
theorem IK{st:aG}{lo x:Nat}{c:qX}(C:gq prog w A κ s a₀)(B:WB a₀ κ st)(hn:lo+n<=a₀.size)(hx:x<n)(I:CI st x c an):cC (model prog w) A E s (DF.1 lo x c) (gE (CI st (x+1)) (CQ st n)) an:=by
 induction I with |mk h=>
 refine wt (w_ltAt C B (sD hn hx).1 (sD hn hx).2 λb=>?_)
 cases b with
 |true=>exact br (.done ⟨h,Nat.le_of_lt hx⟩)
 |false=>exact br (.yield ⟨Nat.le_succ_of_le h⟩)
theorem w_count{st:aG}{lo i8:Nat}{Q:aB Nat->aG->Prop}(C:gq prog w A κ s a₀)(B:WB a₀ κ st)(hn:lo+i8<=a₀.size)(h1:1<=i8)
  (h: ∀m an,WB a₀ κ an->cb an=cb st->1<=m->m<=i8->Q (some m) an):cC (model prog w) A E s (Gx lo i8) Q st:=by
 rw[DF.2.2]
 refine w_loopR (CI st) (CQ st i8) h1 (λx c an hx I=>IK C B hn hx I) (λc an I=>?_) ⟨Nat.le_refl 1⟩ λc an X=>?_
 .induction I with |mk h=>exact⟨h,Nat.le_refl _⟩
 induction X with | @mk m g1 g2=>
 delta DF
 dsimp -zeta only
 extract_lets r0 n0 n1 q0 j
 refine cB (λω=>br (h m _ B rfl g1 g2)) λhm=>?_
 have hm:m<i8:=Nat.lt_of_le_of_ne g2 (gz hm)
 have main: ∀fc,WB a₀ κ fc->cb fc=cb st->cC (model prog w) A E s (j jg) Q fc:=λfc qK nT=>by
  refine wt (r_ (fj ⟨rfl,?_⟩))
  refine w_loopR (DG a₀ κ st) (DH a₀ κ st i8) (Nat.succ_le_of_lt hm) (λx c an hx I=>?_) (λc an I=>?_) ⟨Nat.le_succ_of_le g1,qK,nT⟩ λc an X=>?_
  .induction I with | @mk q an h1 B p=>
   refine wt (w_ltAt C B (sD hn hx).1 (sD hn hx).2 λb=>?_)
   cases b with
   |true=>
    dsimp -zeta only
    extract_lets z1 z2 j2 j1
    have fin: ∀eH,WB a₀ κ eH->cb eH=cb st->cC (model prog w) A E s (j2 jg) (gE (DG a₀ κ st (x+1)) (DH a₀ κ st i8)) eH:=λeH vO vP=>br (.yield ⟨Nat.le_succ_of_le h1,vO,vP⟩)
    exact cB (λω=>cB (λω=>wt (w_reverse B λJu C_ C'=>fin _ C_ (C'.trans p))) λω=>fin _ B p) λq=>ax rfl q
   |false=>
    refine wt (w_ltAt C B (sD hn hx).2 (sD hn hx).1 λb=>?_)
    cases b with
    |true=>exact br (.done ⟨h1,Nat.le_of_lt hx,B,p⟩)
    |false=>exact br (.yield ⟨Nat.le_succ_of_le h1,B,p⟩)
  .induction I with |mk h1 B p=>exact⟨h1,Nat.le_refl _,B,p⟩
  .induction X with | @mk m q an g1 g2 B p=>
   dsimp -zeta only
   extract_lets s3 m3 q3 j3
   have tail: ∀eH,WB a₀ κ eH->cb eH=cb st->cC (model prog w) A E s (j3 jg) Q eH:=λeH vO vP=>by
    refine wt (w_reverse vO λJw Kg Wu=>?_)
    refine w_loopR (CI Jw) (CQ Jw i8) g2 (λx c an hx I=>IK C Kg hn hx I) (λc an I=>?_) ⟨g1⟩ λc an X=>?_
    .induction I with |mk h=>exact⟨h,Nat.le_refl _⟩
    .induction X with | @mk m g1 g2=>exact br (h m _ Kg (Wu.trans vP) g1 g2)
   exact cB (λω=>wt (w_reverse B λJu C_ C'=>tail _ C_ (C'.trans p))) λω=>tail _ B p
 refine cB (λhgt=>wt (w_ltAt C B (Nat.lt_of_lt_of_le (Nat.lt_add_of_pos_right h1) hn) (Nat.lt_of_le_of_lt (Nat.sub_le ..) (Nat.lt_of_lt_of_le (Nat.add_lt_add_left hm lo) hn)) λb=>?_)) λω=>main _ B rfl
 cases b with
 |true=>exact br (h m _ B rfl g1 g2)
 |false=>exact wt (w_reverse B λfc qK nT=>main _ qK nT)
theorem IL{l r:Nat}(h: ¬l>=r):(l+r)/2<r:=(Nat.div_lt_iff_lt_mul (by decide)).mpr (by rw[Nat.mul_two];exact Nat.add_lt_add_right (Nat.not_le.mp h) r)
theorem w_binary{st:aG}{lo ok:Nat}{Q:Bool->aG->Prop}(C:gq prog w A κ s a₀)(B:WB a₀ κ st)(hn:lo+n<=a₀.size)
  (h: ∀an,WB a₀ κ an->cb an=cb st->Q true an):cC (model prog w) A E s (binarySort' lo n ok) Q st:=by
 rw[binarySort'_eq]
 refine wt (uD (AM (I:=λk c an=>c=(none,())/\WB a₀ κ an/\cb an=cb st)
  (Q:=λc an=>c=(none,())/\WB a₀ κ an/\cb an=cb st) ?step (λω ω q=>q) ⟨rfl,B,rfl⟩) ?post)
 case post=>
  rintro c an ⟨rfl,B',p'⟩
  exact br (h an B' p')
 case step=>
  rintro k c an hak wn ⟨rfl,B',p'⟩
  refine wt (uD (AM (I:=λx c lE=>lE=an/\ ∃l r,c=(none,l,r)/\r<=k)
   (Q:=λc lE=>lE=an/\ ∃l r,c=(none,l,r)) ?istep ?ifin ?iinit) ?ipost)
  case iinit=>exact⟨rfl,0,k,rfl,Nat.le_refl _⟩
  case ifin=>
   rintro c lE ⟨rfl,l,r,rfl,_⟩
   exact⟨rfl,l,r,rfl⟩
  case istep=>
   rintro x c lE _ qY ⟨rfl,l,r,rfl,hr⟩
   dsimp only
   by_cases j4:l>=r
   .rw[if_pos j4]
    exact br ⟨rfl,l,r,rfl⟩
   .rw[aK j4]
    refine wt (w_ltAt C B' (Nat.lt_of_lt_of_le (Nat.add_lt_add_left wn lo) hn) (Nat.lt_of_lt_of_le (Nat.add_lt_add_left (Nat.lt_of_lt_of_le (IL j4) (Nat.le_trans hr (Nat.le_of_lt wn))) lo) hn) λb=>?_)
    cases b with
    |true=>exact br ⟨rfl,l,(l+r)/2,rfl,Nat.le_trans (Nat.le_of_lt (IL j4)) hr⟩
    |false=>exact br ⟨rfl,(l+r)/2+1,r,rfl,hr⟩
  case ipost=>
   rintro c lE ⟨rfl,l,r,rfl⟩
   exact wt (w_move B' λeH vO vP=>br ⟨rfl,vO,vP.trans p'⟩)
theorem w_dir{st:aG}{left:Bool}{x key:cI}{Q:aB Bool->aG->Prop}(C:gq prog w A κ s a₀)(hk:kindOf st=κ)(hx:x∈a₀)(hy:key∈a₀)(h: ∀b,Q (some b) st):
  cC (model prog w) A E s (if left=true then lt' x key else lt' key x>>=λr=>pure (r.map (!·))) Q st:=by
 cases left with
 |true=>exact w_lt C hk hx hy h
 |false=>exact wt (w_lt C hk hy hx λb=>br (h _))
noncomputable abbrev Lc:=aB (aB Nat)×Nat×Nat
noncomputable def IM(left:Bool)(key:cI)(arr:ay cI)(k:Nat):cW aG bw (aB Bool):=elem' arr k>>=λx=>if left=true then lt' x key else lt' key x>>=λr=>pure (r.map (!·))
noncomputable def Ld:{f:Bool->cI->ay cI->Nat->Nat->Nat->aB Bool->cW aG bw (aB Nat)// ∀left key arr base n hint,HV left key arr base n hint=(IM left key arr (base+hint)>>=f left key arr base n hint)}:=⟨_,λω ω ω ω ω ω=>rfl⟩
inductive GN(st:aG):Lc->aG->Prop
 |mk {a b:Nat}:GN st (none,a,b) st
inductive GF(st:aG)(n:Nat):Lc->aG->Prop
 |mk {lo hi:Nat} (h:hi<=n):GF st n (none,lo,hi) st
theorem w_gallop{st:aG}{left:Bool}{key:cI}{arr:ay cI}{base hint:Nat}{Q:aB Nat->aG->Prop}(C:gq prog w A κ s a₀)(hk:kindOf st=κ)(ha: ∀x∈arr,x∈a₀)(Wv:key∈a₀)(hz:base+n<=arr.size)(hh:hint<n)
  (h: ∀k,k<=n->Q (some k) st):cC (model prog w) A E s (HV left key arr base n hint) Q st:=by
 have dir: ∀{i:Nat} {R:aB Bool->aG->Prop},i<n->(∀b,R (some b) st)->cC (model prog w) A E s (IM left key arr (base+i)) R st:=λhi hR=>
  wt (w_elem (Nat.lt_of_lt_of_le (Nat.add_lt_add_left hi base) hz) (w_dir C hk (ha _ (t7 _)) Wv hR))
 rw[Ld.2]
 refine wt (dir hh λright=>?_)
 delta Ld
 dsimp -zeta only
 extract_lets a1 a2 a3
 have fin: ∀l o lo hi,hi<=n->cC (model prog w) A E s (a1 jg l o lo hi) Q st:=λl o lo hi oa=>by
  refine w_loop (λω=>GF st n) (GF st n) (λx c an ω I=>?_) (λω ω q=>q) ⟨oa⟩ λc an X=>?_
  .induction I with | @mk lo hi oa=>
   refine cB (λω=>br (.done ⟨oa⟩)) λj4=>?_
   have hm:lo+(hi - lo)/2<n:=Nat.lt_of_lt_of_le (Nat.add_lt_of_lt_sub' (Nat.div_lt_self (Nat.sub_pos_of_lt (Nat.lt_of_not_le j4)) (by decide))) oa
   refine wt (dir hm λb=>?_)
   cases b with
   |true=>exact br (.yield ⟨oa⟩)
   |false=>exact br (.yield ⟨Nat.le_of_lt hm⟩)
  .induction X with |mk oa=>exact br (h _ oa)
 cases right with
 |true=>
  refine cB (λω=>?_) λq=>ax rfl q
  refine w_loop (λω=>GN st) (GN st) (λx c an ω I=>?_) (λω ω q=>q) ⟨⟩ λc an X=>?_
  .induction I with | @mk a b=>
   refine cB (λω=>br (.done ⟨⟩)) λj4=>wt (dir (show hint+b<n from Nat.add_lt_of_lt_sub' (Nat.lt_of_not_le j4)) λb=>?_)
   cases b with
   |true=>exact br (.yield ⟨⟩)
   |false=>exact br (.done ⟨⟩)
  .induction X with | @mk a b=>exact fin a b _ _ (show hint+min b (n - hint)<=n from Nat.le_trans (Nat.add_le_add_left (Nat.min_le_right ..) hint) (Nat.le_of_eq (Nat.add_sub_cancel' (Nat.le_of_lt hh))))
 |false=>
  refine cB (λq=>ax q Bool.false_ne_true) λω=>?_
  refine w_loop (λω=>GN st) (GN st) (λx c an ω I=>?_) (λω ω q=>q) ⟨⟩ λc an X=>?_
  .induction I with | @mk a b=>
   refine cB (λω=>br (.done ⟨⟩)) λj4=>wt (dir (Nat.lt_of_le_of_lt (Nat.sub_le hint b) hh) λb=>?_)
   cases b with
   |true=>exact br (.done ⟨⟩)
   |false=>exact br (.yield ⟨⟩)
  .induction X with | @mk a b=>exact fin a b _ _ (Nat.le_of_lt (Nat.lt_of_le_of_lt (Nat.sub_le hint a) hh))
end
noncomputable abbrev j5:=aB KA×KA×Nat×Nat×Nat
noncomputable abbrev pE:=aB KA×KA×Nat×Nat×Nat×Nat
noncomputable abbrev tw:=aB KA×KA×Nat×Nat×Nat×Nat×Nat
noncomputable def mP:{f:KA->KA->cI->aG->cW aG bw KA// ∀a b,G6 a b=(liftM (rule "list.sort.merge-lo")>>=λω=>elem' b 0>>=λx=>
 if(1==b.size)=true then pure (#[x]++a.extract 0++b.extract 1) else if(0+1==a.size)=true then pure (#[x]++b.extract 1++a.extract 0) else get>>=f a b x)}:=⟨_,λω ω=>rfl⟩
noncomputable def DI:(mg:aG->Nat)×' (f:KA->KA->Nat->j5->cW aG bw (e_ j5))×' {g:KA->KA->j5->cW aG bw KA// ∀a b x t,mP.1 a b x t=(gO [:a.size+b.size] ((none,#[x],0,1,mg t):j5) (f a b)>>=g a b)}:=⟨_,_,_,λω ω ω ω=>rfl⟩
noncomputable def zq:(f:KA->KA->j5->Nat->pE->cW aG bw (e_ pE))×' {g:KA->KA->j5->pE->cW aG bw (e_ j5)// ∀a b i s,DI.2.1 a b i s=(gO [:a.size+b.size] ((none,s.2.1,s.2.2.1,s.2.2.2.1,0,0):pE) (f a b s)>>=g a b s)}:=⟨_,_,λω ω ω ω=>rfl⟩
noncomputable def Ye:{f:KA->KA->j5->pE->aB Bool->cW aG bw (e_ pE)// ∀a b s y t,zq.1 a b s y t=(elem' b t.2.2.2.1>>=λu=>elem' a t.2.2.1>>=λv=>lt' u v>>=f a b s t)}:=⟨_,λω ω ω ω ω=>rfl⟩
noncomputable def Le:{f:KA->KA->j5->KA->Nat->Nat->Nat->Nat->yG->cW aG bw (e_ j5)// ∀a b s out ia ib ac bc,zq.2.1 a b s (none,out,ia,ib,ac,bc)=(liftM (rule "list.sort.gallop")>>=f a b s out ia ib ac bc)}:=⟨_,λω ω ω ω ω ω ω ω=>rfl⟩
noncomputable def DJ:(f:KA->KA->Nat->tw->cW aG bw (e_ tw))×' {g:KA->KA->tw->cW aG bw (e_ j5)// ∀a b s out ia ib ac bc u,Le.1 a b s out ia ib ac bc u=(gO [:a.size+b.size] ((none,out,ia,ib,s.2.2.2.2+1,ac,bc):tw) (f a b)>>=g a b)}:=⟨_,_,λω ω ω ω ω ω ω ω ω=>rfl⟩
noncomputable abbrev j6:=aB KA×Nat×Nat×KA×Nat
noncomputable abbrev pG:=aB KA×Nat×Nat×KA×Nat×Nat
noncomputable abbrev ty:=aB KA×Nat×Nat×KA×Nat×Nat×Nat
noncomputable def Lg:{f:KA->KA->cI->aG->cW aG bw KA// ∀a b,G7 a b=(liftM (rule "list.sort.merge-hi")>>=λω=>elem' a (a.size - 1)>>=λx=>
 if(a.size - 1==0)=true then pure (a.extract 0 (a.size - 1)++b.extract 0 b.size++ #[x].reverse) else if(b.size==1)=true then pure (b.extract 0 b.size++a.extract 0 (a.size - 1)++ #[x].reverse) else get>>=f a b x)}:=⟨_,λω ω=>rfl⟩
noncomputable def Lh:(mg:aG->Nat)×' (f:KA->KA->Nat->j6->cW aG bw (e_ j6))×' {g:KA->KA->j6->cW aG bw KA// ∀a b x t,Lg.1 a b x t=(gO [:a.size+b.size] ((none,a.size - 1,b.size,#[x],mg t):j6) (f a b)>>=g a b)}:=⟨_,_,_,λω ω ω ω=>rfl⟩
noncomputable def zt:(f:KA->KA->j6->Nat->pG->cW aG bw (e_ pG))×' {g:KA->KA->j6->pG->cW aG bw (e_ j6)// ∀a b i s,Lh.2.1 a b i s=(gO [:a.size+b.size] ((none,s.2.1,s.2.2.1,s.2.2.2.1,0,0):pG) (f a b s)>>=g a b s)}:=⟨_,_,λω ω ω ω=>rfl⟩
noncomputable def Yf:{f:KA->KA->j6->pG->aB Bool->cW aG bw (e_ pG)// ∀a b s y t,zt.1 a b s y t=(elem' b (t.2.2.1 - 1)>>=λu=>elem' a (t.2.1 - 1)>>=λv=>lt' u v>>=f a b s t)}:=⟨_,λω ω ω ω ω=>rfl⟩
noncomputable def Li:{f:KA->KA->j6->Nat->Nat->KA->Nat->Nat->yG->cW aG bw (e_ j6)// ∀a b s na nb out ac bc,zt.2.1 a b s (none,na,nb,out,ac,bc)=(liftM (rule "list.sort.gallop")>>=f a b s na nb out ac bc)}:=⟨_,λω ω ω ω ω ω ω ω=>rfl⟩
noncomputable def DK:(f:KA->KA->Nat->ty->cW aG bw (e_ ty))×' {g:KA->KA->ty->cW aG bw (e_ j6)// ∀a b s na nb out ac bc u,Li.1 a b s na nb out ac bc u=(gO [:a.size+b.size] ((none,na,nb,out,s.2.2.2.2+1,ac,bc):ty) (f a b)>>=g a b)}:=⟨_,_,λω ω ω ω ω ω ω ω ω=>rfl⟩
section
variable{prog:Program}{w:World}{A:bo}{E:Value->Shared->Prop}{s:Shared}{a₀:ay cI}{κ:fV}
def Sub(a₀ x:ay cI):Prop:= ∀y∈x,y∈a₀
theorem Sub.app{x y:ay cI}(h:Sub a₀ x)(k:Sub a₀ y):Sub a₀ (x++y):=λz hz=>(ay.mem_append.mp hz).elim (h z) (k z)
theorem Sub.ext{x:ay cI}(h:Sub a₀ x):Sub a₀ (x.extract i j):=λz hz=>by
 obtain⟨k,hk,rfl⟩:=ay.mem_iff_getElem.mp hz
 rw[ay.getElem_extract]
 exact h _ (t7 _)
theorem Sub.push{x:ay cI}{y:cI}(h:Sub a₀ x)(k:y∈a₀):Sub a₀ (x.push y):=λz hz=>(ay.mem_push.mp hz).elim (h z) λq=>q▸k
theorem Sub.rev{x:ay cI}(h:Sub a₀ x):Sub a₀ x.reverse:=λz hz=>h z (ay.mem_reverse.mp hz)
theorem Sub.one{y:cI}(k:y∈a₀):Sub a₀ #[y]:=λz hz=>by
 have:z=y:=by simpa using hz
 exact this▸k
theorem Sub.at{x:ay cI}(h:Sub a₀ x)(hi:i<x.size):x[i]∈a₀:=h _ (t7 hi)
structure SJ(a₀:ay cI)(κ:fV)(st an:aG):Prop where
 B:WB a₀ κ an
 pend:cb an=cb st
 arr:cG an=cG st
theorem w_setMin{st:aG}{g:Nat}{Q:Unit->aG->Prop}(J:SJ a₀ κ st an)(h: ∀lE,SJ a₀ κ st lE->Q () lE):cC (model prog w) A E s (OW g) Q an:=
 r3 (h _ ⟨⟨J.B.size,J.B.sub,J.B.small,J.B.kind,J.B.failed⟩,J.pend,J.arr⟩)
structure zu(a₀ a b out:ay cI)(ia ib k:Nat):Prop where
 sub:Sub a₀ out
 bO:k<=ia+ib
 ia:ia+1<a.size
 ib:ib<b.size
inductive I1(a₀ a b:KA)(κ:fV)(st:aG)(k:Nat):j5->aG->Prop
 |mk {out:KA} {ia ib mg:Nat} {an:aG} (J:SJ a₀ κ st an) (L:zu a₀ a b out ia ib k):I1 a₀ a b κ st k (none,out,ia,ib,mg) an
inductive ik(a₀:KA)(κ:fV)(st:aG){β:Type}:aB KA×β->aG->Prop
 |mk {r:KA} {x:β} {an:aG} (J:SJ a₀ κ st an) (h:Sub a₀ r):ik a₀ κ st (some r,x) an
inductive I2(a₀ a b:KA)(κ:fV)(st:aG)(k:Nat):pE->aG->Prop
 |mk {out:KA} {ia ib ac bc:Nat} {an:aG} (J:SJ a₀ κ st an) (L:zu a₀ a b out ia ib k):I2 a₀ a b κ st k (none,out,ia,ib,ac,bc) an
inductive I3(a₀ a b:KA)(κ:fV)(st:aG)(k:Nat):tw->aG->Prop
 |mk {out:KA} {ia ib mg ac bc:Nat} {an:aG} (J:SJ a₀ κ st an) (L:zu a₀ a b out ia ib k):I3 a₀ a b κ st k (none,out,ia,ib,mg,ac,bc) an
variable{st:aG}{a b:KA}
theorem VA(C:gq prog w A κ s a₀)(ha:Sub a₀ a)(hb:Sub a₀ b){x y:Nat}{t:j5}{c:pE}(I:I2 a₀ a b κ st (x+min y 1) c an):
  cC (model prog w) A E s (zq.1 a b t y c) (gE (I2 a₀ a b κ st (x+min (y+1) 1)) λc an=>I2 a₀ a b κ st (x+1) c an\/ik a₀ κ st c an) an:=by
 induction I with | @mk out ia ib ac bc an J L=>
 rw[Ye.2]
 have l1:=Nat.lt_of_succ_lt L.ia
 have f1:x+1<=ia+ib+1:=Nat.succ_le_succ (Nat.le_trans (Nat.le_add_right ..) L.bO)
 have f2:x+min (y+1) 1<=ia+ib+1:=Nat.le_trans (Nat.add_le_add_left (Nat.min_le_right ..) x) f1
 refine wt (w_elem L.ib (wt (w_elem l1 (wt (w_lt C J.B.kind (hb.at _) (ha.at _) λq=>?_)))))
 cases q with
 |true=>
  refine wt (w_elem (i:=ib) L.ib ?_)
  have s1:=L.sub.push (hb.at L.ib)
  refine cB (λω=>br (.done (.inr ⟨J,(s1.app ha.ext).app hb.ext⟩))) λh3=>?_
  have l2:=Nat.lt_of_le_of_ne (Nat.succ_le_of_lt L.ib) (gz h3)
  exact cB (λω=>br (.done (.inl ⟨J,s1,f1,L.ia,l2⟩))) λω=>br (.yield ⟨J,s1,f2,L.ia,l2⟩)
 |false=>
  refine wt (w_elem (i:=ia) l1 ?_)
  have s1:=L.sub.push (ha.at l1)
  refine cB (λω=>br (.done (.inr ⟨J,(s1.app hb.ext).app ha.ext⟩))) λh3=>?_
  have l2:=Nat.lt_of_le_of_ne (Nat.succ_le_of_lt L.ia) (gz h3)
  rw[Nat.add_right_comm] at f1 f2
  exact cB (λω=>br (.done (.inl ⟨J,s1,f1,l2,L.ib⟩))) λω=>br (.yield ⟨J,s1,f2,l2,L.ib⟩)
theorem Up(C:gq prog w A κ s a₀)(ha:Sub a₀ a)(hb:Sub a₀ b){x y:Nat}{c:tw}(I:I3 a₀ a b κ st x c an):
  cC (model prog w) A E s (DJ.1 a b y c) (gE (I3 a₀ a b κ st x) λc an=>I3 a₀ a b κ st x c an\/ik a₀ κ st c an) an:=by
 induction I with | @mk out ia ib mg ac bc an J L=>
 delta DJ
 dsimp -zeta only
 extract_lets s1 o1 s2 a1 s3 b1 s4 m1 s5 Yg Yh ib1 j Lj
 have main: ∀mg,cC (model prog w) A E s (j jg mg) (gE (I3 a₀ a b κ st x) λc an=>I3 a₀ a b κ st x c an\/ik a₀ κ st c an) an:=λmg=>by
  refine eF (w_setMin J λoW J=>eF (w_elem L.ib (eF (w_gallop C J.B.kind ha (hb.at _) (Nat.le_of_eq (Nat.add_sub_cancel' (Nat.le_of_lt (Nat.lt_of_succ_lt L.ia)))) (Nat.sub_pos_of_lt (Nat.lt_of_succ_lt L.ia)) λk hk=>?_))))
  dsimp -zeta only
  extract_lets Yi j1 Ww ia1
  have m1: ∀out ia,Sub a₀ out->ia+1<a.size->x<=ia+ib->cC (model prog w) A E s (j1 jg out ia) (gE (I3 a₀ a b κ st x) λc an=>I3 a₀ a b κ st x c an\/ik a₀ κ st c an) oW:=λout ia so la lf=>by
   refine wt (w_elem L.ib ?_)
   have s1:=so.push (hb.at L.ib)
   refine cB (λω=>br (.done (.inr ⟨J,(s1.app ha.ext).app hb.ext⟩))) λh3=>?_
   have lb:ib+1<b.size:=Nat.lt_of_le_of_ne (Nat.succ_le_of_lt L.ib) (gz h3)
   refine eF (w_elem (Nat.lt_of_succ_lt la) (eF (w_gallop C J.B.kind hb (ha.at _) (Nat.le_of_eq (Nat.add_sub_cancel' (Nat.le_of_lt lb))) (Nat.sub_pos_of_lt lb) λk hk=>?_)))
   dsimp -zeta only
   extract_lets Yj ia2 j2 Wx ib2
   have m2: ∀out ib,Sub a₀ out->ib<b.size->x<=ia+ib->cC (model prog w) A E s (j2 jg out ib) (gE (I3 a₀ a b κ st x) λc an=>I3 a₀ a b κ st x c an\/ik a₀ κ st c an) oW:=λout ib so lb lf=>by
    refine wt (w_elem (Nat.lt_of_succ_lt la) ?_)
    have s2:=so.push (ha.at (Nat.lt_of_succ_lt la))
    refine cB (λω=>br (.done (.inr ⟨J,(s2.app hb.ext).app ha.ext⟩))) λh4=>?_
    have L':zu a₀ a b _ (ia+1) ib x:=⟨s2,Nat.le_trans lf (Nat.add_le_add_right (Nat.le_succ ia) ib),Nat.lt_of_le_of_ne (Nat.succ_le_of_lt la) (gz h4),lb⟩
    exact cB (λω=>br (.done (.inl ⟨J,L'⟩))) λω=>br (.yield ⟨J,L'⟩)
   refine cB (λω=>cB (λω=>br (.done (.inr ⟨J,((s1.app hb.ext).app ha.ext).app hb.ext⟩))) λh5=>m2 _ _ (s1.app hb.ext) ?_ ?_) λω=>m2 _ _ s1 lb ?_
   .exact Nat.lt_of_le_of_ne (Nat.add_le_of_le_sub' (Nat.le_of_lt lb) hk) (gz h5)
   .exact Nat.le_trans lf (Nat.add_le_add_left (Nat.le_trans (Nat.le_succ ib) (Nat.le_add_right _ k)) ia)
   .exact Nat.le_succ_of_le lf
  refine cB (λω=>cB (λω=>br (.done (.inr ⟨J,((L.sub.app ha.ext).app hb.ext).app ha.ext⟩))) λh5=>cB (λω=>br (.done (.inr ⟨J,((L.sub.app ha.ext).app ha.ext).app hb.ext⟩))) λh6=>m1 _ _ (L.sub.app ha.ext) ?_ ?_) λω=>m1 _ _ L.sub L.ia L.bO
  .have h5:ia+k+1≠a.size:=gz h5
   have h6:ia+k≠a.size:=gz h6
   have hk:k<=a.size - ia:=hk
   exact Nat.lt_of_le_of_ne (Nat.lt_of_le_of_ne (Nat.add_le_of_le_sub' (Nat.le_of_lt (Nat.lt_of_succ_lt L.ia)) hk) h6) h5
  .exact Nat.le_trans L.bO (Nat.add_le_add_right (Nat.le_add_right ..) ib)
 exact cB (λω=>main _) λω=>main _
theorem w_mergeLo{Q:ay cI->aG->Prop}(C:gq prog w A κ s a₀)(B:WB a₀ κ st)(ha:Sub a₀ a)(hb:Sub a₀ b)(za:1<=a.size)(zb:1<=b.size)
  (h: ∀out an,Sub a₀ out->SJ a₀ κ st an->Q out an):cC (model prog w) A E s (G6 a b) Q st:=by
 rw[mP.2]
 refine wt (r_ (fj ⟨rfl,wt (w_elem zb ?_)⟩))
 have s0:Sub a₀ #[b[0]]:=Sub.one (hb.at _)
 have J0:SJ a₀ κ st st:=⟨B,rfl,rfl⟩
 refine cB (λω=>br (h _ _ ((s0.app ha.ext).app hb.ext) J0)) λh1=>cB (λω=>br (h _ _ ((s0.app hb.ext).app ha.ext) J0)) λh2=>eF (nC ?_)
 rw[DI.2.2.2]
 refine w_loop (λx=>I1 a₀ a b κ st (x+1)) (ik a₀ κ st) (λx c an hx I=>?_) (λc an I=>?_) (.mk J0 ⟨s0,Nat.le_refl _,Nat.lt_of_le_of_ne za (gz h2),Nat.lt_of_le_of_ne zb (gz h1)⟩) λc an X=>?_
 .induction I with | @mk out ia ib mg an J L=>
  rw[zq.2.2]
  refine w_loop (λy=>I2 a₀ a b κ st (x+1+min y 1)) (λc an=>I2 a₀ a b κ st (x+1+1) c an\/ik a₀ κ st c an) (λy c an ω I=>VA C ha hb I) (λc an I=> .inl ?_) ⟨J,L⟩ λc an X=>?_
  .rwa [Nat.min_eq_right (Nat.le_add_right_of_le za)] at I
  .rcases X with I |X
   .induction I with | @mk out ia ib ac bc an J L=>
    rw[Le.2]
    refine eF (r_ (fj ⟨rfl,?_⟩))
    rw[DJ.2.2]
    refine w_loop (λy=>I3 a₀ a b κ st (x+1+1)) (λc an=>I3 a₀ a b κ st (x+1+1) c an\/ik a₀ κ st c an) (λy c an ω I=>Up C ha hb I) (λc an I=> .inl I) ⟨J,L⟩ λc an X=>?_
    rcases X with I |X
    .induction I with | @mk out ia ib mg ac bc an J L=>exact wt (w_setMin J λlE J=>br (.yield ⟨J,L⟩))
    .induction X with |mk J hr=>exact br (.done ⟨J,hr⟩)
   .induction X with |mk J hr=>exact br (.done ⟨J,hr⟩)
 .induction I with | @mk out ia ib mg an J L=>exact ax L.bO (Nat.not_le.mpr (Nat.lt_succ_of_lt (Nat.add_lt_add (Nat.lt_of_succ_lt L.ia) L.ib)))
 .induction X with |mk J hr=>exact br (h _ _ hr J)
structure zv(a₀ a b:ay cI)(na nb:Nat)(out:ay cI)(k:Nat):Prop where
 sub:Sub a₀ out
 bO:na+nb+k<=a.size+b.size
 pa:1<=na
 pH:na<=a.size
 pb:2<=nb
 qZ:nb<=b.size
inductive J1(a₀ a b:KA)(κ:fV)(st:aG)(k:Nat):j6->aG->Prop
 |mk {out:KA} {na nb mg:Nat} {an:aG} (J:SJ a₀ κ st an) (L:zv a₀ a b na nb out k):J1 a₀ a b κ st k (none,na,nb,out,mg) an
inductive J2(a₀ a b:KA)(κ:fV)(st:aG)(k:Nat):pG->aG->Prop
 |mk {out:KA} {na nb ac bc:Nat} {an:aG} (J:SJ a₀ κ st an) (L:zv a₀ a b na nb out k):J2 a₀ a b κ st k (none,na,nb,out,ac,bc) an
inductive J3(a₀ a b:KA)(κ:fV)(st:aG)(k:Nat):ty->aG->Prop
 |mk {out:KA} {na nb mg ac bc:Nat} {an:aG} (J:SJ a₀ κ st an) (L:zv a₀ a b na nb out k):J3 a₀ a b κ st k (none,na,nb,out,mg,ac,bc) an
theorem pred_lt(h:1<=n)(k':n<=k):n - 1<k:=Nat.lt_of_lt_of_le (Nat.pred_lt (Nat.ne_of_gt h)) k'
theorem G8{m z:Nat}(h:1<=n)(f:n+m+k<=z):n - 1+m+(k+1)<=z:=by
 cases n with
 |zero=>exact ax h (Nat.not_succ_le_zero 0)
 |succ n=>rw[Nat.add_right_comm n 1 m,Nat.add_right_comm _ 1 k] at f;exact f
theorem VB(C:gq prog w A κ s a₀)(ha:Sub a₀ a)(hb:Sub a₀ b){x y:Nat}{t:j6}{c:pG}(I:J2 a₀ a b κ st (x+min y 1) c an):
  cC (model prog w) A E s (zt.1 a b t y c) (gE (J2 a₀ a b κ st (x+min (y+1) 1)) λc an=>J2 a₀ a b κ st (x+1) c an\/ik a₀ κ st c an) an:=by
 induction I with | @mk out na nb ac bc an J L=>
 rw[Yf.2]
 have la:=pred_lt L.pa L.pH
 have b1:=Nat.le_of_lt L.pb
 have lb:=pred_lt b1 L.qZ
 have f:na+nb+x<=a.size+b.size:=Nat.le_trans (Nat.add_le_add_left (Nat.le_add_right ..) _) L.bO
 have up: ∀{z},z+(x+1)<=a.size+b.size->z+(x+min (y+1) 1)<=a.size+b.size:=λh=>Nat.le_trans (Nat.add_le_add_left (Nat.add_le_add_left (Nat.min_le_right ..) x) _) h
 refine wt (w_elem lb (wt (w_elem la (wt (w_lt C J.B.kind (hb.at _) (ha.at _) λq=>?_)))))
 cases q with
 |true=>
  refine wt (w_elem la ?_)
  have s1:=L.sub.push (ha.at la)
  refine cB (λω=>br (.done (.inr ⟨J,(ha.ext.app hb.ext).app s1.rev⟩))) λh3=>?_
  have p1:=Nat.one_le_iff_ne_zero.mpr (gz h3)
  have f1:=G8 L.pa f
  exact cB (λω=>br (.done (.inl ⟨J,s1,f1,p1,Nat.le_of_lt la,L.pb,L.qZ⟩))) λω=>br (.yield ⟨J,s1,up f1,p1,Nat.le_of_lt la,L.pb,L.qZ⟩)
 |false=>
  refine wt (w_elem lb ?_)
  have s1:=L.sub.push (hb.at lb)
  refine cB (λω=>br (.done (.inr ⟨J,(hb.ext.app ha.ext).app s1.rev⟩))) λh3=>?_
  have p1:=Nat.lt_of_le_of_ne (Nat.le_sub_of_add_le L.pb) (fm (gz h3))
  have f1:=G8 b1 (Nat.add_comm na nb▸f)
  rw[Nat.add_comm (nb - 1)] at f1
  exact cB (λω=>br (.done (.inl ⟨J,s1,f1,L.pa,L.pH,p1,Nat.le_of_lt lb⟩))) λω=>br (.yield ⟨J,s1,up f1,L.pa,L.pH,p1,Nat.le_of_lt lb⟩)
theorem Uq(C:gq prog w A κ s a₀)(ha:Sub a₀ a)(hb:Sub a₀ b){x y:Nat}{c:ty}(I:J3 a₀ a b κ st x c an):
  cC (model prog w) A E s (DK.1 a b y c) (gE (J3 a₀ a b κ st x) λc an=>J3 a₀ a b κ st x c an\/ik a₀ κ st c an) an:=by
 induction I with | @mk out na nb mg ac bc an J L=>
 have lb:=pred_lt (Nat.le_of_lt L.pb) L.qZ
 have za: ∀{n},n<=a.size->0+n<=a.size:=λh=>(Nat.zero_add _).symm▸h
 have zb: ∀{n},n<=b.size->0+n<=b.size:=λh=>(Nat.zero_add _).symm▸h
 delta DK
 dsimp -zeta only
 extract_lets s1 na1 s2 nb1 s3 o1 s4 m1 s5 Yg Yh nb2 j Lj
 have main: ∀mg,cC (model prog w) A E s (j jg mg) (gE (J3 a₀ a b κ st x) λc an=>J3 a₀ a b κ st x c an\/ik a₀ κ st c an) an:=λmg=>by
  refine eF (w_setMin J λoW J=>eF (w_elem lb (eF (w_gallop C J.B.kind ha (hb.at _) (za L.pH) (pred_lt L.pa (Nat.le_refl _)) λk hk=>?_))))
  dsimp -zeta only
  extract_lets k1 Yi j1 Ww na2
  have g1: ∀na out,Sub a₀ out->1<=na->na<=a.size->na+nb+x<=a.size+b.size->cC (model prog w) A E s (j1 jg na out) (gE (J3 a₀ a b κ st x) λc an=>J3 a₀ a b κ st x c an\/ik a₀ κ st c an) oW:=λna out so pa pH bO=>by
   refine wt (w_elem lb ?_)
   have s1:=so.push (hb.at lb)
   refine cB (λω=>br (.done (.inr ⟨J,(hb.ext.app ha.ext).app s1.rev⟩))) λh3=>?_
   have p1:2<=nb - 1:=Nat.lt_of_le_of_ne (Nat.le_sub_of_add_le L.pb) (fm (gz h3))
   have la:=pred_lt pa pH
   refine eF (w_elem la (eF (w_gallop C J.B.kind hb (ha.at _) (zb (Nat.le_of_lt lb)) (pred_lt (Nat.le_of_lt p1) (Nat.le_refl _)) λk hk=>?_)))
   dsimp -zeta only
   extract_lets k2 Yj na3 j2 Wx nb3
   have g2: ∀wo out,Sub a₀ out->2<=wo->wo<=nb - 1->cC (model prog w) A E s (j2 jg wo out) (gE (J3 a₀ a b κ st x) λc an=>J3 a₀ a b κ st x c an\/ik a₀ κ st c an) oW:=λwo out so pb qZ=>by
    refine wt (w_elem la ?_)
    have s2:=so.push (ha.at la)
    refine cB (λω=>br (.done (.inr ⟨J,(ha.ext.app hb.ext).app s2.rev⟩))) λh4=>?_
    have L':zv a₀ a b (na - 1) wo _ x:=⟨s2,Nat.le_trans (Nat.add_le_add_right (Nat.add_le_add (Nat.sub_le na 1) (Nat.le_trans qZ (Nat.sub_le nb 1))) x) bO,Nat.one_le_iff_ne_zero.mpr (gz h4),Nat.le_of_lt la,pb,Nat.le_trans qZ (Nat.le_of_lt lb)⟩
    exact cB (λω=>br (.done (.inl ⟨J,L'⟩))) λω=>br (.yield ⟨J,L'⟩)
   refine cB (λω=>cB (λω=>br (.done (.inr ⟨J,(hb.ext.app ha.ext).app (s1.app hb.ext.rev).rev⟩))) λh5=>cB (λω=>br (.done (.inr ⟨J,(ha.ext.app hb.ext).app (s1.app hb.ext.rev).rev⟩))) λh6=>g2 _ _ (s1.app hb.ext.rev) ?_ hk) λω=>g2 _ _ s1 p1 (Nat.le_refl _)
   exact Nat.lt_of_le_of_ne (Nat.one_le_iff_ne_zero.mpr (gz h6)) (fm (gz h5))
  exact cB (λω=>cB (λω=>br (.done (.inr ⟨J,(ha.ext.app hb.ext).app (L.sub.app ha.ext.rev).rev⟩))) λh5=>g1 _ _ (L.sub.app ha.ext.rev) (Nat.one_le_iff_ne_zero.mpr (gz h5)) (Nat.le_trans hk L.pH) (Nat.le_trans (Nat.add_le_add_right (Nat.add_le_add_right hk nb) x) L.bO)) λω=>g1 _ _ L.sub L.pa L.pH L.bO
 exact cB (λω=>main _) λω=>main _
theorem w_mergeHi{Q:ay cI->aG->Prop}(C:gq prog w A κ s a₀)(B:WB a₀ κ st)(ha:Sub a₀ a)(hb:Sub a₀ b)(za:1<=a.size)(zb:1<=b.size)
  (h: ∀out an,Sub a₀ out->SJ a₀ κ st an->Q out an):cC (model prog w) A E s (G7 a b) Q st:=by
 rw[Lg.2]
 have la:=pred_lt za (Nat.le_refl _)
 refine wt (r_ (fj ⟨rfl,wt (w_elem la ?_)⟩))
 have s0:Sub a₀ #[a[a.size - 1]]:=Sub.one (ha.at _)
 have J0:SJ a₀ κ st st:=⟨B,rfl,rfl⟩
 refine cB (λω=>br (h _ _ ((ha.ext.app hb.ext).app s0.rev) J0)) λh1=>cB (λω=>br (h _ _ ((hb.ext.app ha.ext).app s0.rev) J0)) λh2=>eF (nC ?_)
 rw[Lh.2.2.2]
 refine w_loop (λx=>J1 a₀ a b κ st (x+1)) (ik a₀ κ st) (λx c an hx I=>?_) (λc an I=>?_) (.mk J0 ⟨s0,?_,Nat.one_le_iff_ne_zero.mpr (gz h1),Nat.sub_le _ 1,Nat.lt_of_le_of_ne zb (fm (gz h2)),Nat.le_refl _⟩) λc an X=>?_
 .induction I with | @mk out na nb mg an J L=>
  rw[zt.2.2]
  refine w_loop (λy=>J2 a₀ a b κ st (x+1+min y 1)) (λc an=>J2 a₀ a b κ st (x+1+1) c an\/ik a₀ κ st c an) (λy c an ω I=>VB C ha hb I) (λc an I=> .inl ?_) ⟨J,L⟩ λc an X=>?_
  .rwa [Nat.min_eq_right (Nat.le_add_right_of_le za)] at I
  .rcases X with I |X
   .induction I with | @mk out na nb ac bc an J L=>
    rw[Li.2]
    refine eF (r_ (fj ⟨rfl,?_⟩))
    rw[DK.2.2]
    refine w_loop (λy=>J3 a₀ a b κ st (x+1+1)) (λc an=>J3 a₀ a b κ st (x+1+1) c an\/ik a₀ κ st c an) (λy c an ω I=>Uq C ha hb I) (λc an I=> .inl I) ⟨J,L⟩ λc an X=>?_
    rcases X with I |X
    .induction I with | @mk out na nb mg ac bc an J L=>exact wt (w_setMin J λlE J=>br (.yield ⟨J,L⟩))
    .induction X with |mk J hr=>exact br (.done ⟨J,hr⟩)
   .induction X with |mk J hr=>exact br (.done ⟨J,hr⟩)
 .induction I with | @mk out na nb mg an J L=>exact ax L.bO (by have:=L.pa;have:=L.pb;lia)
 .rw[Nat.add_right_comm,Nat.sub_add_cancel za];exact Nat.le_refl _
 .induction X with |mk J hr=>exact br (h _ _ hr J)
end
section
variable{prog:Program}{w:World}{A:bo}{E:Value->Shared->Prop}{s:Shared}{a₀:ay cI}{κ:fV}
inductive gu:Nat->Nat->ae (Nat×Nat×Nat)->Prop
 |nil {e:Nat}:gu e e []
 |cons {a n p e:Nat} {r:ae (Nat×Nat×Nat)} (h:1<=n) (k:gu (a+n) e r):gu a e ((a,n,p)::r)
theorem gu.le{a e:Nat}(h:gu a e r):a<=e:=by
 induction h with
 |nil=>exact Nat.le_refl _
 |cons h k ih=>lia
theorem gu.push{a e p:Nat}(h:gu a e r)(hn:1<=n):gu a (e+n) (r++[(e,n,p)]):=by
 induction h with
 |nil=>exact .cons hn .nil
 |cons h k ih=>exact .cons h ih
theorem gu.two{a e:Nat}(h:gu a e r): ∀(i:Nat) (sa na pa sb nb pb:Nat),r[i]? =some (sa,na,pa)->r[i+1]? =some (sb,nb,pb)->
  1<=na/\1<=nb/\sb=sa+na/\sb+nb<=e/\gu a e ((r.set i (sa,na+nb,pa)).eraseIdx (i+1)):=by
 induction h with
 |nil=>intro i sa na pa sb nb pb h1;simp at h1
 | @cons a n p e r hn k ih=>
  intro i sa na pa sb nb pb h1 h2
  cases i with
  |zero=>
   simp at h1 h2
   obtain⟨rfl,rfl,rfl⟩:=h1
   cases k with
   |nil=>simp at h2
   | @cons a' n' p' _ r' pD k'=>
    simp at h2
    obtain⟨rfl,rfl,rfl⟩:=h2
    refine⟨hn,pD,rfl,k'.le,?_⟩
    simp only[ae.set_cons_zero,Nat.zero_add,Ni,ae.eraseIdx_cons_zero]
    exact .cons (by lia) (by rw[show a+(n+n')=a+n+n' by lia];exact k')
  |succ i=>
   simp at h1 h2
   obtain⟨q1,q2,q3,q4,q5⟩:=ih i sa na pa sb nb pb h1 h2
   refine⟨q1,q2,q3,q4,?_⟩
   simp only[ae.set_cons_succ,Ni]
   exact .cons hn q5
theorem gu.VC{a e:Nat}(h:gu a e r): ∀(i q:Nat),gu a e (r.modify i λx=>(x.1,x.2.1,q)):=by
 induction h with
 |nil=>intro i q;simp;exact .nil
 | @cons a n p e r hn k ih=>
  intro i q
  cases i with
  |zero=>simp only[ae.modify_zero_cons];exact .cons hn k
  |succ i=>simp only[ae.modify_succ_cons];exact .cons hn (ih i q)
structure SR(a₀:ay cI)(κ:fV)(e:Nat)(st:aG):Prop where
 B:WB a₀ κ st
 runs:gu 0 e (cb st).toList
 inside:e<=a₀.size
 DL:a₀.size<64->(cb st).size<=1
theorem HW(sa:Nat): ∀(l:ae (cI×Nat)) (arr:ay cI),(∀p∈l,p.1∈a₀)->Sub a₀ arr->Sub a₀ (l.foldl (λa (p,j)=>a.setIfInBounds (sa+j) p) arr)/\(l.foldl (λa (p,j)=>a.setIfInBounds (sa+j) p) arr).size=arr.size
 |[],arr,_,h=>⟨h,rfl⟩
 |(p,j)::l,arr,hl,h=>by
  have h':Sub a₀ (arr.setIfInBounds (sa+j) p):=λy hy=>by
   rcases ay.mem_or_eq_of_mem_setIfInBounds hy with q |q
   .exact h y q
   .exact q▸hl _ (.head _)
  obtain⟨q1,q2⟩:=HW sa l (arr.setIfInBounds (sa+j) p) (λp hp=>hl p (.tail _ hp)) h'
  exact⟨q1,by rw[Oy];exact q2.trans (by simp)⟩
theorem Q1{sa na z:Nat}(hk:k<=na)(h:sa+na<z):sa+k+(na - k) - 1<z:=Nat.lt_of_le_of_lt (Nat.le_trans (Nat.sub_le _ _) (Nat.le_of_eq (by rewrite [Nat.add_assoc,Nat.add_sub_cancel' hk];rfl))) h
theorem CB(h:1<n):n - 2+1<n:=match n,h with |m+2,_=>Nat.lt_succ_self _
theorem VD(h:1<n):n - 3+1<n:=Nat.lt_of_le_of_lt (Nat.succ_le_succ (Nat.sub_le_sub_left (by decide) n)) (CB h)
set_option tactic.hygienic true in
theorem w_mergeAt{st:aG}{e:Nat}{Q:Bool->aG->Prop}(C:gq prog w A κ s a₀)(S:SR a₀ κ e st)(hi:i+1<(cb st).size)(h: ∀an,SR a₀ κ e an->Q true an):cC (model prog w) A E s (mergeAt' i) Q st:=by
 have big: ¬a₀.size<64:=λq=>ax (Nat.lt_of_lt_of_le hi (S.DL q)) (Nat.not_lt.mpr (Nat.succ_le_succ (Nat.zero_le i)))
 refine eF (nC ?_)
 obtain⟨⟨sa,na,pa⟩,h1⟩: ∃x,(cb st)[i]? =some x:=⟨_,p9 (cb st) i (Nat.lt_of_succ_lt hi)⟩
 obtain⟨⟨sb,nb,pb⟩,h2⟩: ∃x,(cb st)[i+1]? =some x:=⟨_,p9 (cb st) (i+1) hi⟩
 obtain⟨z1,z2,rfl,z4,z5⟩:=S.runs.two i sa na pa sb nb pb (by simpa using h1) (by simpa using h2)
 have zi:=S.inside
 have zs:=S.B.size
 have la:sa+na+nb<=(cG st).size:=zs.symm▸Nat.le_trans z4 zi
 have lb:sa+na<(cG st).size:=Nat.lt_of_lt_of_le (Nat.lt_add_of_pos_right z2) la
 rw[h1,h2]
 refine eF ?_
 have ix:SR a₀ κ e (xJ (kindOf st) (cG st) (((cb st).setIfInBounds i (sa,na+nb,pa)).eraseIdxIfInBounds (i+1)) (gallopOf st) (se st)):=by
  refine⟨⟨S.B.size,S.B.sub,S.B.small,S.B.kind,S.B.failed⟩,?_,S.inside,λq=>ax q big⟩
  have:(((cb st).setIfInBounds i (sa,na+nb,pa)).eraseIdxIfInBounds (i+1)).toList=((cb st).toList.set i (sa,na+nb,pa)).eraseIdx (i+1):=by
   rw[Ai]
   split
   .simp
   .rename_i q;simp at q;lia
  show gu 0 e _
  rw[this];exact z5
 show cC _ _ _ _ (set (xJ (kindOf st) (cG st) (((cb st).setIfInBounds i (sa,na+nb,pa)).eraseIdxIfInBounds (i+1)) (gallopOf st) (se st))) _ _
 refine r3 (f:=λω=>_) ?_
 revert ix
 refine gn (xJ (kindOf st) (cG st) (((cb st).setIfInBounds i (sa,na+nb,pa)).eraseIdxIfInBounds (i+1)) (gallopOf st) (se st)) λoW zo=>?_
 intro ix
 have Kh: ∀{i} (hi:i<(cG st).size),(cG st)[i]∈a₀:=λhi=>S.B.sub _ (t7 hi)
 refine wt (w_elem (arr:=cG st) lb (wt (w_gallop (arr:=cG st) C ix.B.kind S.B.sub (Kh _) (Nat.le_of_lt lb) z1 λk hk=>?_)))
 refine cB (λω=>br (h _ ix)) λh3=>?_
 have h3:na - k≠0:=by simpa using h3
 refine wt (w_elem (arr:=cG st) (Q1 hk lb) (wt (w_gallop (arr:=cG st) C ix.B.kind S.B.sub (Kh _) la (Nat.sub_lt z2 (by decide)) λk' bJ=>?_)))
 refine cB (λω=>br (h _ ix)) λh4=>?_
 have h4:k'≠0:=by simpa using h4
 extract_lets x y j
 have hx:Sub a₀ ((cG st).extract (sa+k) (sa+na)):=Sub.ext S.B.sub
 have hy:Sub a₀ ((cG st).extract (sa+na) (sa+na+k')):=Sub.ext S.B.sub
 have i_:1<=((cG st).extract (sa+k) (sa+na)).size:=by rw[NO,Nat.min_eq_left (Nat.le_of_lt lb)];exact Nat.sub_pos_of_lt (Nat.add_lt_add_left (Nat.lt_of_sub_ne_zero h3) sa)
 have lO:1<=((cG st).extract (sa+na) (sa+na+k')).size:=by rw[NO,Nat.min_eq_left (Nat.le_trans (Nat.add_le_add_left bJ _) la),Nat.add_sub_cancel_left];exact Nat.pos_of_ne_zero h4
 have main: ∀m fc,Sub a₀ m->SJ a₀ κ oW fc->cC (model prog w) A E s (j m) Q fc:=by
  intro m fc hm J
  refine wt (r3 ?_)
  refine wt (nC ?_)
  refine br ?_
  have q:=HW (a₀:=a₀) (sa+k) m.toList.zipIdx (cG fc) (λp hp=>hm _ (by
   have:=ae.fst_mem_of_mem_zipIdx hp
   simpa using this)) J.B.sub
  have F:=J.B.failed
  show Q (se fc).isNone _
  rw[F]
  exact h _ ⟨⟨q.2.trans J.B.size,q.1,λq=>ax q big,J.B.kind,F⟩,by show gu 0 e (cb fc).toList;rw[J.pend];exact ix.runs,ix.inside,λq=>ax q big⟩
 refine cB (λω=>?_) λω=>?_
 .exact wt (w_mergeLo C ix.B hx hy i_ lO λm fc hm J=>main m fc hm J)
 .exact wt (w_mergeHi C ix.B hx hy i_ lO λm fc hm J=>main m fc hm J)
theorem Ur{c:Prop}[ux c]{a b:Nat}(h1:a+1<k)(h2:b+1<k):(if c then a else b)+1<k:=by
 split
 .exact h1
 .exact h2
noncomputable def Lk:{f:aG->cW aG bw Unit//sortRuns'=(get>>=f)}:=⟨_,sortRuns'_eq⟩
noncomputable abbrev pI:=aB Unit×Nat
noncomputable def zw:(f:aG->Nat->pI->cW aG bw (e_ pI))×' {g:aG->pI->cW aG bw Unit// ∀t,Lk.1 t=(gO [:(cG t).size] ((none,0):pI) (f t)>>=g t)}:=⟨_,_,λω=>rfl⟩
noncomputable def Ll:{f:aG->Nat->aB Nat->cW aG bw (e_ pI)// ∀t i lo,zw.1 t i (none,lo)=(if lo>=(cG t).size then pure (.done (none,lo)) else Gx lo ((cG t).size - lo)>>=f t lo)}:=⟨_,λω ω ω=>rfl⟩
noncomputable def Yk:(f:Nat->aB Unit×Unit->cW aG bw (e_ (aB Unit×Unit)))×' {g:aB Unit×Unit->cW aG bw Unit// ∀t lo,zw.2.1 t (none,lo)=(gO [:(cG t).size] (none,()) f>>=g)}:=⟨_,_,λω ω=>rfl⟩
inductive SQ(a₀:KA)(κ:fV):pI->aG->Prop
 |mk {lo:Nat} {st:aG} (S:SR a₀ κ lo st):SQ a₀ κ (none,lo) st
inductive SI(a₀:KA)(κ:fV):pI->aG->Prop
 |mk {lo:Nat} {st:aG} (S:SR a₀ κ lo st) (DL:a₀.size<64->lo<a₀.size->cb st= #[]/\lo=0):SI a₀ κ (none,lo) st
inductive SN(a₀:KA)(κ:fV)(lo:Nat):aB Unit×Unit->aG->Prop
 |mk {st:aG} (S:SR a₀ κ lo st):SN a₀ κ lo (none,()) st
theorem SR.same{e:Nat}{st:aG}(S:SR a₀ κ e st)(B:WB a₀ κ an)(p:cb an=cb st):SR a₀ κ e an:=⟨B,p▸S.runs,S.inside,λq=>p▸S.DL q⟩
theorem S4{t st:aG}{c:pI}(C:gq prog w A κ s a₀)(zs:(cG t).size=a₀.size)(I:SI a₀ κ c st):cC (model prog w) A E s (zw.1 t i c) (gE (SI a₀ κ) (SQ a₀ κ)) st:=by
 induction I with | @mk lo st S y3=>
 have Lm:a₀.size<64->minRun' (cG t).size (cG t).size 0=a₀.size:=λtA=>by
  rw[zs]
  cases e:a₀.size with
  |zero=>rfl
  |succ f=>rw[minRun'_succ,if_pos (e▸tA)]
 rw[Ll.2,zs]
 refine cB (λω=>br (.done ⟨S⟩)) λkQ=>?_
 have bj:=Nat.lt_of_not_le kQ
 have le:=Nat.add_sub_cancel' (Nat.le_of_lt bj)
 refine eF (w_count C S.B (Nat.le_of_eq le) (Nat.sub_pos_of_lt bj) λfound oW Ki Kj Ln Yl=>?_)
 delta Ll
 dsimp -zeta only
 extract_lets n1 j VE n2
 have main: ∀n fc,1<=n->lo+n<=a₀.size->(a₀.size<64->lo+n=a₀.size)->WB a₀ κ fc->cb fc=cb st->cC (model prog w) A E s (j jg n) (gE (SI a₀ κ) (SQ a₀ κ)) fc:=λn fc pJ q7 Ym qK nT=>by
  have kO:=S.same qK nT
  refine eF (nC ?_)
  extract_lets DI j1
  have fin: ∀eH,SR a₀ κ lo eH->(a₀.size<64->cb eH= #[])->cC (model prog w) A E s (j1 jg) (gE (SI a₀ κ) (SQ a₀ κ)) eH:=λeH gT he=>by
   refine eF (r3 (br (.yield ⟨⟨⟨gT.B.size,gT.B.sub,gT.B.small,gT.B.kind,gT.B.failed⟩,?_,q7,λq=>?_⟩,λq q'=>ax (Ym q) (Nat.ne_of_lt q')⟩)))
   .show gu 0 _ ((cb eH).push (lo,n,0)).toList
    rw[t6];exact gT.runs.push pJ
   .show((cb eH).push (lo,n,0)).size<=1
    rw[he q];exact Nat.le_refl 1
  cases hb:(cb fc).back? with
  |none=>exact fin _ kO λq=>nT.trans (y3 q bj).1
  |some e3=>
   have big: ¬a₀.size<64:=λq=>by rw[nT,(y3 q bj).1] at hb;cases hb
   refine w_loop (λω=>SN a₀ κ lo) (SN a₀ κ lo) (λx c eH ω I=>?_) (λω ω q=>q) ⟨kO⟩ λc eH X=>?_
   .induction I with | @mk eH gT=>
    refine eF (nC ?_)
    dsimp only
    by_cases hz:(cb eH).size>1
    .rw[if_pos hz,p9 (cb eH) ((cb eH).size - 2) (Nat.sub_lt (Nat.lt_of_succ_lt hz) (by decide))]
     exact cB (λω=>br (.done ⟨gT⟩)) λω=>eF (w_mergeAt C gT (CB hz) λJu jU=>br (.yield ⟨jU⟩))
    .rw[aK hz]
     exact br (.done ⟨gT⟩)
   .induction X with | @mk eH gT=>
    refine wt (r3 (fin _ ⟨⟨gT.B.size,gT.B.sub,gT.B.small,gT.B.kind,gT.B.failed⟩,?_,gT.inside,λq=>ax q big⟩ λq=>ax q big))
    show gu 0 lo ((cb eH).modify ((cb eH).size - 1) _).toList
    rw[NH]
    exact gT.runs.VC _ _
 have Lp:lo+found<=a₀.size:=le▸Nat.add_le_add_left Yl lo
 refine cB (λC9=>eF (r_ (fj ⟨rfl,?_⟩))) λj4=>main _ _ Ln Lp (λq=>?_) Ki Kj
 .have f:lo+VE<=a₀.size:=Nat.le_trans (Nat.add_le_add_left (Nat.min_le_left ..) lo) (Nat.le_of_eq (zs▸le))
  refine eF (w_binary C Ki f λfc qK nT=>main _ _ ?_ f (λq=>?_) qK (nT.trans Kj))
  .exact Nat.le_min.mpr ⟨zs.symm▸Nat.sub_pos_of_lt bj,Nat.le_trans Ln (Nat.le_of_lt C9)⟩
  .have h0:=(y3 q bj).2
   show lo+min ((cG t).size - lo) (minRun' (cG t).size (cG t).size 0)=_
   rw[Lm q,zs,h0,Nat.sub_zero,Nat.min_self,Nat.zero_add]
 .have h0:=(y3 q bj).2
  have h1: ¬found<minRun' (cG t).size (cG t).size 0:=j4
  rw[Lm q] at h1
  exact Nat.le_antisymm Lp (Nat.le_trans (Nat.le_of_not_lt h1) (Nat.le_add_left _ lo))
theorem w_sortRuns{st:aG}{Q:Unit->aG->Prop}(C:gq prog w A κ s a₀)(B:WB a₀ κ st)(hp:cb st= #[])(h2:2<=a₀.size)(h: ∀an,WB a₀ κ an->Q () an):cC (model prog w) A E s sortRuns' Q st:=by
 rw[Lk.2]
 refine eF (nC ?_)
 rw[zw.2.2]
 refine w_loop (λω=>SI a₀ κ) (SQ a₀ κ) (λi c an ω I=>S4 C B.size I) (λc an I=>?_) ⟨⟨B,by rw[hp];exact .nil,Nat.zero_le _,λω=>by rw[hp];exact Nat.zero_le _⟩,λω ω=>⟨hp,rfl⟩⟩ λc an X=>?_
 .induction I with |mk S _=>exact⟨S⟩
 .induction X with | @mk lo an S=>
  rw[Yk.2.2]
  refine w_loop (λω=>SN a₀ κ lo) (SN a₀ κ lo) (λx c an ω I=>?_) (λω ω q=>q) ⟨S⟩ λc an X=>?_
  .induction I with | @mk an S=>
   refine wt (nC ?_)
   refine cB (λω=>br (.done ⟨S⟩)) λhz=>?_
   have hz: ¬(cb an).size<=1:=hz
   exact wt (w_mergeAt C S (Ur (VD (Nat.lt_of_not_le hz)) (CB (Nat.lt_of_not_le hz))) λfc kO=>br (.yield ⟨kO⟩))
  .induction X with |mk S=>exact br (h _ S.B)
end
section
variable{n:Nat}{af:Env}{m:au}{X P:PM}{σ:ah}{s:Shared}{A:bo}
noncomputable def Lq:{f:Value->Value->bw Unit// ∀es cx pos it v,k_ (.Tuple es cx pos) it v=f it v}:=⟨_,λω ω ω ω ω=>rfl⟩
theorem Jx(t:Expr)(it v:Value):k_ t it v=Lq.1 it v\/k_ t it v=pure ():=by cases t<;>first |exact .inr rfl |exact .inl rfl
theorem Q2(T:At af m X P σ s){it:Value}{fp:ae Addr}(I:fQ G.w.params P s.heap it fp l){t:Expr}{Q:Unit->Shared->Prop}(h:Q () s):ai GM A (k_ t it v) Q E s:=by
 refine(Jx t it v).elim (λe=>?_) λe=>e▸aq h
 rw[e]
 have nr:(∀a,v≠ .ref a)-> ∀it,ai GM A (Lq.1 it v) Q E s:=λn it=>by
  cases v with
  |ref a=>exact ax rfl (n a)
  |_=>cases it<;>exact aq h
 cases v with
 |ref a=>
  cases I with
  |list hi _ _=>
   obtain⟨o,ho,hc,hd⟩:=hi
   refine cS (AY ho ?_)
   rw[hc,hd]
   exact aq h
  |tuple hi _ _=>
   obtain⟨o,ho,hc,hd⟩:=hi
   refine cS (AY ho ?_)
   rw[hc,hd]
   exact aq h
  |range hi=>exact wb (AY hi (aq h))
 |_=>exact nr (λω=>nofun) it
structure jn(t:Expr)(Z:PM->Heap->Value->ae Addr->ae AV->Prop):Prop where
 d_: ∀{P h it fp l},Z P h it fp l-> ∀a∈fp,∃o,h.get? a=some o
 same: ∀{P P' h h' it fp l},Z P h it fp l->P.le P'->(∀a∈fp,h'.get? a=h.get? a)->Z P' h' it fp l
 next: ∀{af m X P σ s A it fp a r} {R:Value->Shared->Prop} {Q:aB Value->Shared->Prop},At af m X P σ s->bM af X P σ fp->Z P s.heap it fp (a::r)->
  (∀v aH,ai GM A (k_ t it v) (λω aV=>R v aV) (λω ω=>False) aH->Q (some v) aH)->
  (∀v P' s',P.le P'->At af m X P' σ s'->RepV G.w.params P' a v->bM af X P' σ fp->Z P' s'.heap it fp r->R v s')->
  ai GM A (cR it) Q (λω ω=>False) s
 stop: ∀{af m X P σ s A it fp} {Q:aB Value->Shared->Prop},A.handled=none->At af m X P σ s->bM af X P σ fp->Z P s.heap it fp []->
  (∀P' s',P.le P'->At af m X P' σ s'->Q none s')->ai GM A (cR it) Q (λω ω=>False) s
 again: ∀{P s A it fp l} {Q:Value->Shared->Prop},Z P s.heap it fp l->Q it s->ai GM A (hW it) Q (λω ω=>False) s
theorem Gk(t:Expr):jn t (fQ G.w.params) where
 d_:=λI=>I.d_
 same:=λI hP e=>I.same hP e
 next:=λT O I k h=>HP T rfl O I λv P' s' hP T' rv O' I'=>k v s' (Q2 T' I' (h v P' s' hP T' rv O' I'))
 stop:=λhh T O I h=>IF hh T rfl O I h
 again:=λI h=>QU I h
inductive Ut(af:Env)(t:Expr)(m:au)(X P:PM)(Q:ae AV->ah->Prop)(iv:Value)(s':Shared):Prop
 |mk (P':PM) (σ':ah) (l:ae AV) (Z:PM->Heap->Value->ae Addr->ae AV->Prop) (fp:ae Addr) (ok:jn t Z) (hP:P.le P') (T:At af m X P' σ' s') (O:bM af X P' σ' fp) (z:Z P' s'.heap iv fp l) (q:Q l σ')
def iy(n:Nat)(af:Env)(t it:Expr)(m:au)(σ:ah)(Q:ae AV->ah->Prop):Prop:=
 ∀A X P s,cT n A->At af m X P σ s->ai GM A (eval it af) (λx aH=>ai GM A (hW x) (λiv aV=>
  Ut af t m X P Q iv aV) (λω ω=>False) aH) (λω ω=>False) s
inductive Wy(Q:ae AV->ah->Prop)(a:AV)(ap:ah):Prop
 |mk (l:ae AV) (hs:lD a l) (q:Q l ap)
theorem w_seq{t it:Expr}{Q:ae AV->ah->Prop}(h:aQ n af it m σ (Wy Q)):iy n af t it m σ Q:=by
 intro A X P s hA T
 refine aC.with (h A X P s hA T) λv aH aR ap a aJ aL bF pq=>?_
 obtain⟨l,hs,q⟩:=pq
 exact HQ aL hs bF λiv fp aV ba gy nR=>⟨aR,ap,l,_,fp,Gk t,aJ,ba,gy,nR,q⟩
theorem Q3{prog:Program}{w:World}{target it body orelse af}(I:Nat->Shared->Prop)
  (turn: ∀n s,I n s->ai (model prog w) A (cR it) (λr aH=>match r with
   |none=>ai (model prog w) A (execs orelse af) (λf eJ=>R (.ok f) eJ) (λω ω=>False) aH
   |some v=>ai (model prog w) A (k_ target it v) (λω aH=>ai (model prog w) A (assign target af v) (λω aV=>ai (model prog w) A (execs body af) (λf eJ=>match f with
     | .next | .cont=> ∃m,m<n/\I m eJ
     | .brk=>R (.ok .next) eJ
     | .ret v=>R (.ok (.ret v)) eJ) (λω ω=>False) aV) (λω ω=>False) aH) (λω ω=>False) aH) (λω ω=>False) s)
  (n:Nat) (h:I n s):fX (model prog w) A (.forLoop target it body orelse af) R s:=by
 refine codeAny_loop' rfl I (λn s hI=>?_) n h
 show ai _ _ ((forTurn target it body orelse af).onRaise (λx=>do Gv x af;Ou x)) _ _ s
 refine wpAny_noted ?_
 simp only[forTurn]
 refine wb (fi (wb (xE (bT (turn n s hI) (λr aH aD=>?_) λω ω h'=>h'.elim))))
 cases r with
 |none=>exact aq (.inr ⟨rfl,codeAny_block (bT aD (λω ω z=>z) λω ω h=>h.elim)⟩)
 |some v=>
  refine wb (bT aD (λω Z8 aD=>?_) λω ω h'=>h'.elim)
  refine wb (bT aD (λω aV aI=>wb (bT aI (λf eJ bK=>?_) λω ω h'=>h'.elim)) λω ω h'=>h'.elim)
  cases f with
  |next=>exact aq (.inl ⟨rfl,bK⟩)
  |cont=>exact aq (.inl ⟨rfl,bK⟩)
  |brk=>exact aq bK
  |ret v=>exact aq bK
inductive Jy(Z:PM->Heap->Value->ae Addr->ae AV->Prop)(af:Env)(X P:PM)(iv:Value)(fp:ae Addr)(l:ae AV)(I:Nat->au->ah->Prop)(k:Nat)(s':Shared):Prop
 |mk (i:Nat) (m':au) (P':PM) (σ':ah) (e:i+k=l.length) (hP:P.le P') (T:At af m' X P' σ' s') (O:bM af X P' σ' fp) (z:Z P' s'.heap iv fp (l.drop i)) (h:I i m' σ')
inductive VF(n:Nat)(af:Env)(t:Expr)(b o:ae Stmt)(m:au)(Q:AF->au->ah->Prop)(l:ae AV)(ap:ah):Prop
 |mk (I:Nat->au->ah->Prop) (h0:I 0 m ap)
  (hb: ∀i a m σ,l[i]? =some a->I i m σ->fw n af t a m σ λm₁ ap=>ch n af b m₁ ap λf m₂ aO=>match f with | .next | .cont=>I (i+1) m₂ aO | .brk=>Q .next m₂ aO | .ret v=>Q (.ret v) m₂ aO)
  (he: ∀m σ,I l.length m σ->ch n af o m σ Q)
theorem IN{t it:Expr}{b o:ae Stmt}{pos:Pos}{Q:AF->au->ah->Prop}(hs: ∀af x,g0 it af x=pure x)
  (h:iy n af t it m σ (VF n af t b o m Q)):jR n af (.For t it b o pos) m σ Q:=by
 intro A X P s hA T
 refine wpAny_For ?_ (hs af)
 refine bT (h A X P s hA T) (λv aH aD=>?_) λω ω e=>e
 refine bT aD (λiv aV pq=>?_) λω ω e=>e
 obtain⟨aR,ap,l,Z,fp,hZ,aJ,ba,gy,nR,I,h0,hb,he⟩:=pq
 refine Q3 (Jy Z af X P iv fp l I) (λk eJ hI=>?_) l.length
  ⟨0,m,aR,ap,Nat.zero_add _,aJ,ba,gy,nR,h0⟩
 obtain⟨i,iw,eK,dZ,j7,cX,c8,iz,mC,bK⟩:=hI
 cases hl:l.drop i with
 |nil=>
  have hi:i=l.length:=BD j7 (Aq.mp hl)
  subst hi
  rw[hl] at mC
  refine hZ.stop hA.handled c8 iz mC λmA gR jo gx=>?_
  refine bT (he iw dZ bK A X mA gR hA gx) (λf o_ pq=>?_) λω ω e=>e
  obtain⟨Kk,pc,oV,a,kK,i7,vL,di⟩:=pq
  exact⟨Kk,pc,oV,a,(cX.trans jo).trans kK,i7,vL,di⟩
 |cons x r=>
  have hx:=lc hl
  have bj:i<l.length:=BE hl
  rw[hl] at mC
  refine hZ.next c8 iz mC (λv gR z=>z) λv mA gR jo gx rv y4 s_=>?_
  have VG:=gx.dD y4
  refine bT (hb i x iw dZ hx.1 bK A _ mA gR v hA VG rv) (λω o_ pq=>?_) λω ω e=>e
  obtain⟨Kk,pc,oV,kK,i7,di⟩:=pq
  refine bT (di A _ pc o_ hA i7) (λf vQ pq=>?_) λω ω e=>e
  obtain⟨y5,Da,yK,a,Jz,qL,Wz,iA⟩:=pq
  obtain⟨Db,WA,WC⟩:=qL.qe y4 (hZ.d_ s_)
  have hP:=(jo.trans kK).trans Jz
  have nx:I (i+1) y5 yK-> ∃j,j<k/\Jy Z af X P iv fp l I j vQ:=λq=>
   ⟨k - 1,(oG j7 bj).1,i+1,y5,Da,yK,(oG j7 bj).2,cX.trans hP,Db,WC,by rw[hx.2];exact hZ.same s_ (kK.trans Jz) WA,q⟩
  cases Wz with
  |next=>exact nx iA
  |cont=>exact nx iA
  |brk=>exact⟨y5,Da,yK,.next,cX.trans hP,Db,.next,iA⟩
  |ret r=>exact⟨y5,Da,yK,.ret _,cX.trans hP,Db,.ret r,iA⟩
noncomputable def l8(scope:Scope)(af:Env):Scope:={scope with names:=scope.names.map λ(n,k)=>if k== .free&&af.scope.kind== .function&&af.kindOf n==some .cell then(n,.cell) else(n,k)}
noncomputable def fL(scope:Scope)(cl:ae (Str×Addr))(af:Env)(C:Addr):Env:=
 {scope:=l8 scope af,locals:=C,globals:=af.globals,cells:=cl,qual:=af.qual,func:=none,code:=af.code,frame:=af.frame,builtins:=af.builtins}
noncomputable def oX(scope:Scope)(af:Env)(m mL:au):au:=λx=>if(l8 scope af).names.lookup x=some .local then mL x else m x
structure CS(Z:PM->Heap->Value->ae Addr->ae AV->Prop)(af:Env)(m mL:au)(X P:PM)(σ:ah)(C D:Addr)(it:Value)(fp:ae Addr)(acc rest:ae AV)(s:Shared):Prop where
 T:At af m X P σ s
 O:bM af X P σ (C::D::fp)
 cd:C≠D
 cf:C∉fp
 df:D∉fp
 ns: ∃mc,s.heap.Ns C mc/\ ∀x,mf G.w.params P (mL x) (mc x)
 acc: ∃items k,s.heap.get? D=some (cw items k)/\RepL G.w.params P acc items.toList
 it:Z P s.heap it fp rest
structure Kl(af:Env)(m:au)(cl:ae (Str×Addr)):Prop where
 at_: ∀x c,cl.lookup x=some c->af.cells.lookup x=some c/\af.kindOf x≠some .local
theorem bM.sub{fp pK:ae Addr}(O:bM af X P σ fp)(h: ∀a∈pK,a∈fp):bM af X P σ pK:=λa ha=>O a (h a ha)
variable{mL:au}{t:Expr}{Z:PM->Heap->Value->ae Addr->ae AV->Prop}{C D:Addr}{it:Value}{fp:ae Addr}{acc rest:ae AV}{scope:Scope}{cl:ae (Str×Addr)}
noncomputable def CX(af:Env)(h:Heap)(D:Addr)(fp:ae Addr)(X:PM):PM:=guard af h (dD (D::fp) h X)
theorem CS.enter(S:CS Z af m mL X P σ C D it fp acc rest s)(fR:Kl af m cl)(hk:af.scope.kind= .function):At (fL scope cl af C) (oX scope af m mL) (CX af s.heap D fp X) P σ s:=by
 have OD:bM af X P σ (D::fp):=S.O.sub λa ha=> .tail _ ha
 have T1:=S.T.dD OD
 obtain⟨c1,c2,c3,c4,c5⟩:=S.O C (.head _)
 refine⟨T1.guard,?_⟩
 obtain⟨mc,hn,hL⟩:=S.ns
 refine⟨⟨mc,hn,λx hx b e=>?_⟩,⟨c1,?_,c3⟩,λx c hc=>?_,λhf=>by cases hf⟩
 .unfold oX at e
  have:(l8 scope af).names.lookup x=some .local:=hx
  rw[if_pos this] at e;exact hL x b e
 .show guard af s.heap (dD (D::fp) s.heap X) C=none
  unfold Mine.guard
  rw[aK (by rintro(e |⟨x,e⟩);exact c4 e;exact c5 x e)]
  unfold Mine.dD
  rw[aK (by intro h;rcases aY.mp h with e |h;exact S.cd e;exact S.cf h)]
  exact c2
 .obtain⟨e,ne⟩:=fR.at_ x c hc
  obtain⟨⟨v,hv,r⟩,h1,h2,h3⟩:=S.T.fr.cell x c e
  refine⟨⟨v,hv,λq b eb=>?_⟩,λq=>c5 x (by rw[e];exact congrArg some q),h2,h3⟩
  unfold oX at eb
  have q': ¬(l8 scope af).names.lookup x=some .local:=q
  rw[aK q'] at eb
  exact r ne b eb
theorem CS.leave(hZ:jn t Z)(S:CS Z af m mL X P σ C D it fp acc rest s){m':au}{s':Shared}(hP:P.le P')(T':At (fL scope cl af C) m' (CX af s.heap D fp X) P' σ' s')(hL: ∀x b,mL x=some b->(l8 scope af).names.lookup x=some .local/\m' x=some b):CS Z af m mL X P' σ' C D it fp acc rest s':=by
 have OD:bM af X P σ (D::fp):=S.O.sub λa ha=> .tail _ ha
 have T1:=S.T.dD OD
 have T2:=T1.back hP T'.inv
 obtain⟨items,k,hd,ra⟩:=S.acc
 have ex: ∀a∈D::fp,∃o,s.heap.get? a=some o:=λa ha=>by
  rcases aY.mp ha with e |h
  .exact⟨_,e▸hd⟩
  .exact hZ.d_ S.it a h
 obtain⟨T3,e3,O3⟩:=T2.qe OD ex
 obtain⟨c1,c2,c3,c4,c5⟩:=S.O C (.head _)
 obtain⟨mc,hn,hm⟩:=T'.fr.ns
 refine⟨T3,λa ha=>?_,S.cd,S.cf,S.df,⟨mc,hn,λx b e=>hm x (hL x b e).1 b (hL x b e).2⟩,⟨items,k,(e3 D (.head _)).trans hd,ra.mono hP⟩,hZ.same S.it hP λa ha=>e3 a (.tail _ ha)⟩
 rcases aY.mp ha with e |h
 .subst e
  exact⟨T'.fr.mo.1,c2,T'.fr.mo.2.2,c4,c5⟩
 .exact O3 a h
theorem CS.next(hZ:jn t Z)(S:CS Z af m mL X P σ C D it fp acc rest s){a:AV}{r:ae AV}(hl:rest=a::r){R:Value->Shared->Prop}{Q:aB Value->Shared->Prop}
  (hk: ∀v aH,ai GM A (k_ t it v) (λω aV=>R v aV) (λω ω=>False) aH->Q (some v) aH)
  (h: ∀v P' s',P.le P'->RepV G.w.params P' a v->CS Z af m mL X P' σ C D it fp acc r s'->R v s'):ai GM A (cR it) Q (λω ω=>False) s:=by
 subst hl
 obtain⟨items,k,hd,ra⟩:=S.acc
 obtain⟨mc,hn,hL⟩:=S.ns
 have wu:bM af X P σ [C,D]:=S.O.sub λa ha=>by
  rcases aY.mp ha with e |h
  .exact e▸ .head _
  .rw[aW] at h;exact h▸ .tail _ (.head _)
 have OF:bM af X P σ fp:=S.O.sub λa ha=> .tail _ (.tail _ ha)
 have T1:=S.T.dD wu
 have nf: ∀a∈fp,a∉[C,D]:=λa ha h=>by
  rcases aY.mp h with e |h
  .exact S.cf (e▸ha)
  .rw[aW] at h;exact S.df (h▸ha)
 have DM:bM af (Mine.dD [C,D] s.heap X) P σ fp:=λa ha=>by
  obtain⟨h1,h2,h3,h4,h5⟩:=OF a ha
  refine⟨h1,?_,h3,h4,h5⟩
  unfold Mine.dD;rw[aK (nf a ha)];exact h2
 obtain⟨oC,hC⟩:=Heap.Ns.some hn
 have ex: ∀a∈[C,D],∃o,s.heap.get? a=some o:=λa ha=>by
  rcases aY.mp ha with e |h
  .exact⟨_,e▸hC⟩
  .rw[aW] at h;exact⟨_,h▸hd⟩
 refine hZ.next T1 DM S.it hk λv P' s' hP T' rv O' I'=>h v P' s' hP rv ?_
 obtain⟨T3,e3,O3⟩:=T'.qe wu ex
 refine⟨T3,λa ha=>?_,S.cd,S.cf,S.df,⟨mc,Heap.Ns.same hn (e3 C (.head _)),λx=>(hL x).mono hP⟩,⟨items,k,(e3 D (.tail _ (.head _))).trans hd,ra.mono hP⟩,I'⟩
 rcases aY.mp ha with e |ha
 .exact e▸O3 C (.head _)
 .rcases aY.mp ha with e |ha
  .exact e▸O3 D (.tail _ (.head _))
  .obtain⟨h1,h2,h3,h4,h5⟩:=O' a ha
   exact⟨h1,(OF a ha).2.1,h3,h4,h5⟩
theorem CS.stop(hZ:jn t Z)(hh:A.handled=none)(S:CS Z af m mL X P σ C D it fp acc rest s)(hl:rest=[]){Q:aB Value->Shared->Prop}
  (h: ∀P' s',P.le P'->At af m X P' σ s'->bM af X P' σ [C,D]->(∃mc,s'.heap.Ns C mc/\ ∀x,mf G.w.params P' (mL x) (mc x))->(∃items k,s'.heap.get? D=some (cw items k)/\RepL G.w.params P' acc items.toList)->Q none s'):ai GM A (cR it) Q (λω ω=>False) s:=by
 subst hl
 obtain⟨items,k,hd,ra⟩:=S.acc
 obtain⟨mc,hn,hL⟩:=S.ns
 have wu:bM af X P σ [C,D]:=S.O.sub λa ha=>by
  rcases aY.mp ha with e |h
  .exact e▸ .head _
  .rw[aW] at h;exact h▸ .tail _ (.head _)
 have OF:bM af X P σ fp:=S.O.sub λa ha=> .tail _ (.tail _ ha)
 have T1:=S.T.dD wu
 have nf: ∀a∈fp,a∉[C,D]:=λa ha h=>by
  rcases aY.mp h with e |h
  .exact S.cf (e▸ha)
  .rw[aW] at h;exact S.df (h▸ha)
 have DM:bM af (Mine.dD [C,D] s.heap X) P σ fp:=λa ha=>by
  obtain⟨h1,h2,h3,h4,h5⟩:=OF a ha
  refine⟨h1,?_,h3,h4,h5⟩
  unfold Mine.dD;rw[aK (nf a ha)];exact h2
 obtain⟨oC,hC⟩:=Heap.Ns.some hn
 have ex: ∀a∈[C,D],∃o,s.heap.get? a=some o:=λa ha=>by
  rcases aY.mp ha with e |h
  .exact⟨_,e▸hC⟩
  .rw[aW] at h;exact⟨_,h▸hd⟩
 refine hZ.stop hh T1 DM S.it λP' s' hP T'=>?_
 obtain⟨T3,e3,O3⟩:=T'.qe wu ex
 exact h P' s' hP T3 O3 ⟨mc,Heap.Ns.same hn (e3 C (.head _)),λx=>(hL x).mono hP⟩ ⟨items,k,(e3 D (.tail _ (.head _))).trans hd,ra.mono hP⟩
theorem CS.push(hZ:jn t Z)(S:CS Z af m mL X P σ C D it fp acc rest s){a:AV}{v:Value}(r:RepV G.w.params P a v)(hz:acc.length<sizeLine){Q:Value->Shared->Prop}{E:Value->Shared->Prop}
  (h: ∀s',CS Z af m mL X P σ C D it fp (acc++[a]) rest s'->Q .none s'):ai GM A (call (.builtin "list.append") [.ref D,v]) Q E s:=by
 obtain⟨items,k,hd,ra⟩:=S.acc
 obtain⟨mc,hn,hL⟩:=S.ns
 have e1:items.size=acc.length:=by rw[<- ck,<- ra.length]
 have OD:bM af X P σ [D]:=S.O.sub λa ha=>by
  rw[aW] at ha;exact ha▸ .tail _ (.head _)
 have hT:s.TypeIs (.ref D) "list":=⟨_,hd,rfl⟩
 obtain⟨n',iH⟩:=Obj.data_mapSeq (o:=cw items k) rfl (·.push v)
 have Lr:Obj.mapSeq (·.push v) (cw items k)=cw (items.push v) n':=by
  unfold cw at iH ⊢
  simp only[Obj.mapSeq] at iH ⊢
  cases iH;rfl
 refine dY Oc hT N6 ?_ (Od _ _)
 show ai _ _ (xK D (·.push v)>>=λω=>ret .none) _ _ s
 refine wb ?_
 refine xu hd rfl ?_ (by lia)
 refine aq ⟨.none,rfl,h _ ?_⟩
 have gD:=Heap.get?_update_self (h:=s.heap) (Obj.mapSeq (·.push v)) hd (by rw[Lr];rfl)
 rw[Lr] at gD
 have T':=S.T.ext (t:=s.toks) (h':=s.heap.update D (Obj.mapSeq (·.push v))) OD λb o hb e=>(Heap.get?_update_other _ _ (λq=>hb (by rw[q];exact .head _))).trans e
 refine⟨T',S.O,S.cd,S.cf,S.df,⟨mc,Heap.Ns.same hn (Heap.get?_update_other _ _ (fm S.cd)),hL⟩,⟨_,_,gD,by simpa using ra.append (.cons r .nil)⟩,hZ.same S.it (PM.le.refl P) λa ha=>Heap.get?_update_other _ _ (λq=>S.df (q▸ha))⟩
end
section
variable{n:Nat}{af:Env}{m:au}{X P:PM}{σ:ah}{s:Shared}{A:bo}
def CC(n:Nat)(af:Env)(ifs:ae Expr)(m:au)(σ:ah)(Q:Bool->ah->Prop):Prop:=
 ∀A X P s,cT n A->At af m X P σ s->ai GM A (gO ifs true λc r=>if r=true then do let ok <- isTrue c af (eval c af);pure (xw ok) else pure (xw r))
  (aC (At af m X) P (λω b v=>b=v) Q) (λω ω=>False) s
theorem iV{Q:Bool->ah->Prop}(h:Q true σ):CC n af [] m σ Q:=λω ω ω ω ω T=>by
 rw[AJ];exact aq (aC.now T rfl h)
theorem nD{e:Expr}{Q:Bool->ah->Prop}(h:fv n af e m σ Q):CC n af [e] m σ Q:=λA X P s hA T=>by
 rw[xx]
 simp only[if_true]
 refine cS (h.run hA T λaR ap c aH aJ aL aD=>aq ?_)
 dsimp only
 rw[AJ]
 exact aq (aC.up aJ (aC.now aL rfl aD))
variable{elt:Expr}{gens:ae uc}{scope:Scope}{pos:Pos}{d:Nat}{it acc:Value}{cenv:Env}{target iter:Expr}{ifs:ae Expr}{R:B_->Shared->Prop}
theorem Gl(hg:gens[d]? =some ⟨target,iter,ifs,0⟩)(h0:fX GM A (.compLoop (.ListComp elt gens scope pos) d it acc cenv) R s)
  (h:ai GM A (hW it) (λLu s'=>fX GM A (.compLoop (.ListComp elt gens scope pos) d Lu acc cenv) R s') (λω ω=>False) s):fX GM A (.compStart (.ListComp elt gens scope pos) d it acc cenv) R s:=by
 refine FH ?_
 show ai _ _ ((compStart (.ListComp elt gens scope pos) d it acc cenv).onRaise (λx=>do Gv x cenv;iU theWindowsPlace)) _ _ s
 refine wpAny_notedAt ?_
 unfold compStart
 show ai _ _ (if(gens[d]?).elim false (·.is_async != 0)=true then _ else _) _ _ s
 rw[hg]
 refine wp_if_no (show ¬((some (⟨target,iter,ifs,0⟩:uc)).elim false (·.is_async != 0)=true) by simp) ?_
 refine wb (pY (wpAny_ite ?_))
 split
 .exact aq (And.intro rfl h0)
 .refine wb (fj ?_)
  have hc:(clausesOf (.ListComp elt gens scope pos))[d]? =some ⟨target,iter,ifs,0⟩:=hg
  dsimp only
  rw[hc]
  exact wb (fi (wb (bT h (λLu s' h'=>aq (And.intro rfl h')) λω ω x=>x.elim)))
abbrev nE:Value->Shared->Prop:=λω ω=>False
abbrev DN(I:Nat->Shared->Prop)(n:Nat)(s:Shared):Prop:= ∃m,m<n/\I m s
set_option genInjectivity false in
structure TC where
 A:bo
 elt:Expr
 gens:ae uc
 scope:Scope
 pos:Pos
 d:Nat
 acc:Value
 cenv:Env
 I:Nat->Shared->Prop
 n:Nat
abbrev TC.k4(c:TC):Value->Shared->Prop:=λx s=>ai GM c.A (call (.builtin "list.append") [c.acc,x]) (λω s=>DN c.I c.n s) nE s
abbrev TC.k5(c:TC):Value->Shared->Prop:=λiv s=>fX GM c.A (.compStart (.ListComp c.elt c.gens c.scope c.pos) (c.d+1) iv c.acc c.cenv) (λr s=>match r with | .ok _=>DN c.I c.n s | .error _=>False) s
abbrev TC.k3(c:TC):Bool->Shared->Prop:=λok s=>if ok=true then(match c.gens[c.d+1]? with
 |none=>ai GM c.A (eval c.elt c.cenv) c.k4 nE s
 |some g'=>g'.is_async=0/\(∀x,g0 g'.iter c.cenv x=pure x)/\ai GM c.A (eval g'.iter c.cenv) (λx s=>ai GM c.A (hW x) c.k5 nE s) nE s) else DN c.I c.n s
abbrev TC.k2(c:TC)(ifs:ae Expr):Unit->Shared->Prop:=λω s=>ai GM c.A (gO ifs true λe r=>if r=true then do let ok <- isTrue e c.cenv (eval e c.cenv);pure (xw ok) else pure (xw r)) c.k3 nE s
abbrev TC.k1(c:TC)(target:Expr)(ifs:ae Expr)(v:Value):Unit->Shared->Prop:=λω s=>ai GM c.A (assign target c.cenv v) (c.k2 ifs) nE s
abbrev TC.k0(c:TC)(target:Expr)(ifs:ae Expr)(it:Value)(R:B_->Shared->Prop):aB Value->Shared->Prop:=λr s=>match r with
 |none=>R (.ok .next) s
 |some v=>ai GM c.A (k_ target it v) (c.k1 target ifs v) nE s
theorem TC.Uu{c:TC}{u:Unit}{s:Shared}(h:c.k3 true s):c.k2 [] u s:=by
 show ai _ _ (gO [] true _) _ _ _
 rw[AJ];exact aq h
theorem TC.S6{c:TC}{s:Shared}(e:c.gens[c.d+1]? =none)(h:ai GM c.A (eval c.elt c.cenv) c.k4 nE s):c.k3 true s:=by
 unfold TC.k3;rw[if_pos rfl,e];exact h
theorem TC.S7{c:TC}{s:Shared}{g':uc}(e:c.gens[c.d+1]? =some g')(h:g'.is_async=0)(h1: ∀x,g0 g'.iter c.cenv x=pure x)(h2:ai GM c.A (eval g'.iter c.cenv) (λx s=>ai GM c.A (hW x) c.k5 nE s) nE s):c.k3 true s:=by
 unfold TC.k3;rw[if_pos rfl,e];exact⟨h,h1,h2⟩
theorem GI(hg:gens[d]? =some ⟨target,iter,ifs,0⟩)(I:Nat->Shared->Prop)
  (turn: ∀n s,I n s->ai GM A (cR it) (TC.k0 ⟨A,elt,gens,scope,pos,d,acc,cenv,I,n⟩ target ifs it R) nE s)
  (n:Nat) (h:I n s):fX GM A (.compLoop (.ListComp elt gens scope pos) d it acc cenv) R s:=by
 refine codeAny_loop rfl I (λn s hI=>?_) n h
 show ai _ _ ((compTurn (.ListComp elt gens scope pos) d it acc cenv).onRaise (λx=>do Gv x cenv;Ou x)) _ _ s
 refine wpAny_noted ?_
 unfold compTurn
 dsimp only
 rw[hg]
 refine wb (fi ?_)
 refine wp_if_no (show ¬((0:aj) != 0)=true by decide) ?_
 refine wb (bT (turn n s hI) (λr aH aD=>?_) λω ω h'=>h'.elim)
 cases r with
 |none=>exact aq aD
 |some v=>
  refine wb (bT aD (λω aV aI=>?_) λω ω h'=>h'.elim)
  refine cS (bT aI (λω eJ bK=>?_) λω ω h'=>h'.elim)
  refine cS (bT bK (λok gR dO=>?_) λω ω h'=>h'.elim)
  cases ok with
  |false=>
   rw[aK Bool.false_ne_true]
   exact aq ⟨rfl,dO⟩
  |true=>
   rw[if_pos rfl]
   have dO:match gens[d+1]? with
    |none=>ai GM A (eval elt cenv) (TC.k4 ⟨A,elt,gens,scope,pos,d,acc,cenv,I,n⟩) nE gR
    |some g'=>g'.is_async=0/\(∀x,g0 g'.iter cenv x=pure x)/\ai GM A (eval g'.iter cenv) (λx s=>ai GM A (hW x) (TC.k5 ⟨A,elt,gens,scope,pos,d,acc,cenv,I,n⟩) nE s) nE gR:=dO
   cases hq:gens[d+1]? with
   |none=>
    rw[hq] at dO
    refine wb (wb (bT dO (λx o_ di=>?_) λω ω h'=>h'.elim))
    exact wb (bT di (λω vQ iA=>aq (aq ⟨rfl,iA⟩)) λω ω h'=>h'.elim)
   |some g'=>
    rw[hq] at dO
    obtain⟨ha,hf,dO⟩:=dO
    dsimp only
    rw[ha]
    refine wb (bT dO (λx o_ di=>wb (fi ?_)) λω ω h'=>h'.elim)
    refine wp_if_no (show ¬((0:aj) != 0)=true by decide) ?_
    refine wb (xI (hf x) (wb (cq ?_)))
    refine wp_if_no (show ¬((0:aj) != 0)=true by decide) ?_
    refine bT di (λiv vQ iA=>wb (wpAny_runOwn (h:=none) (lV iA λr aag pi=>?_))) λω ω h'=>h'.elim
    cases r with
    |ok f=>exact aq ⟨rfl,pi⟩
    |error e=>exact pi.elim
end
section
variable{n:Nat}{af:Env}{m:au}{X P:PM}{σ:ah}{s:Shared}{A:bo}
theorem At.qB(T:At af m X P σ s){D:Addr}{o:Obj}(O:σ D=none/\X D=none/\P D=none/\D≠af.locals/\ ∀x,af.cells.lookup x≠some D)(ho:s.heap.get? D=some o):At af m X (jY P D o) σ s:=
 have hle:=oR o O.2.2.1
 ⟨T.inv.qB O.1 O.2.1 O.2.2.1 ho,T.fr.step hle (λω e=>e) (λω ω ω e=>e) λb ω hb ω h1 h2=>⟨h1,(lw P o (a:=D) (b:=b) λq=>hb.elim (λe=>O.2.2.2.1 (q▸e)) λ⟨x,e⟩=>O.2.2.2.2 x (q▸e)).trans h2⟩⟩
variable{mL:au}{t:Expr}{Z:PM->Heap->Value->ae Addr->ae AV->Prop}{elt:Expr}{gens gs:ae uc}{scope:Scope}{pos pos':Pos}{target iter:Expr}{ifs:ae Expr}{cl:ae (Str×Addr)}
structure kI(af:Env)(m:au)(scope:Scope)(cl:ae (Str×Addr)):Prop where
 DO:closureFor scope af=pure cl
 ok:Kl af m cl
 cells: ∀x∈scope.names,x.2≠ .cell
 kind:scope.kind= .function
 names: ∀x∈scope.names,x.2= .local->(l8 scope af).names.lookup x.1=some .local
 fn:af.scope.kind= .function
noncomputable def DP(af:Env)(x:Str):Bool:=match af.kindOf x with |some .local=>false |_=>true
noncomputable def Yn(cl:ae (Str×Addr)):ae (aB Addr×Bool):=cl.map λp=>(some p.2,true)
noncomputable def Yo(af:Env)(cl:ae (Str×Addr)):ae (aB Addr×Bool):=cl.map λp=>(af.cells.lookup p.1,DP af p.1)
noncomputable def Lv(af:Env)(scope:Scope):Bool:=scope.names.all (λx=>match x.2 with | .cell=>false | .local=>nk ((l8 scope af).names.lookup x.1) true false |_=>true)&&zk scope.kind&&zk af.scope.kind
theorem wv(h1:pure cl=closureFor scope af:=by exact rfl)(h2:true=Lv af scope:=by exact rfl)(h3:Yn cl=Yo af cl:=by exact rfl):kI af m scope cl:=by
 unfold Lv at h2
 have h2:=Bool.and_eq_true_iff.mp h2.symm
 have h4:=Bool.and_eq_true_iff.mp h2.1
 have ha:=ox.mp h4.1
 refine⟨h1.symm,⟨λx c e=>?_⟩,λx hx e=>?_,?_,λx hx e=>?_,?_⟩
 .obtain⟨l1,l2,e,_⟩:=ae.lookup_eq_some_iff.mp e
  have:=ae.map_inj_left.mp h3 (x,c) (e▸cy.mpr (.inr (.head _)))
  have e1:=congrArg Bo this
  have e2:true=DP af x:=congrArg xR this
  refine⟨e1.symm,λq=>?_⟩
  unfold DP at e2
  rw[q] at e2
  cases e2
 .have:=ha x hx
  rw[e] at this
  cases this
 .exact Cw h4.2
 .have:=ha x hx
  rw[e] at this
  exact yI this.symm (λe ω=>e) λω e=>nomatch e
 .exact Cw h2.2
theorem xV(H:kI af m scope cl)(hs: ∀x,g0 iter af x=pure x){use:aB (Value->bw Unit)}{q:ae AV->ah->Prop}{Q:Value->Shared->Prop}(hA:cT n A)(T:At af m X P σ s)
  (h:iy n af target iter m σ q)
  (k: ∀C D iv fp l aR ap aH Z,jn target Z->P.le aR->CS Z af m (λω=>none) X aR ap C D iv fp [] l aH->q l ap->
   fX GM A (.compStart (.ListComp elt (⟨target,iter,ifs,0⟩::gs) scope pos) 0 iv (.ref D) (fL scope cl af C)) (λr s'=>match r with
    | .error _=>False
    | .ok _=>(match use with
     |none=>(∃mc,s'.heap.Ns C mc)/\ ∀h',Heap.SameBut C s'.heap h'->Q (.ref D) {s' with heap:=h'}
     |some u=>ai GM A (u (.ref D)) (λω nY=>(∃mc,nY.heap.Ns C mc)/\ ∀h',Heap.SameBut C nY.heap h'->Q .none {nY with heap:=h'}) (λω ω=>False) s')) aH):
  ai GM A (comprehension (.ListComp elt (⟨target,iter,ifs,0⟩::gs) scope pos) scope af pos' (qm []) false (eval iter af) use) Q (λω ω=>False) s:=by
 unfold comprehension
 rw[H.DO]
 refine wb (bT (h A X P s hA T) (λx aH aD=>wb (fi (wb (xI (hs x) (wb (cq (bT aD (λiv aV aI=>?_) λω ω e=>e))))))) λω ω e=>e)
 obtain⟨aR,ap,l,Z,fp,hZ,aJ,aL,C7,gS,hq⟩:=aI
 refine wpAny_standIf (wb ?_)
 refine iO ?_ (by show([]:ae Value).toArray.size<=sizeLine;simp)
 refine wb (aq (wb ?_))
 have Lw:=Heap.get?_push_size aV.heap (o:=(⟨.type "list",none,.seq ([]:ae Value).toArray 0,#[]⟩:Obj)) rfl
 refine wpAny_newFunctionEnv H.cells (λy hy=>by simp at hy) (λh' DQ tB=>?_) H.kind
 dsimp only at DQ tB ⊢
 generalize Lx:aV.heap.push ⟨.type "list",none,.seq ([]:ae Value).toArray 0,#[]⟩=H1 at DQ tB Lw ⊢
 have j8:H1.objs.size=aV.heap.objs.size+1:=by rw[<- Lx,Heap.size_push]
 have g1: ∀a o,aV.heap.get? a=some o->H1.get? a=some o:=λa o e=>by rw[<- Lx];exact Heap.get?_push_of_some _ e
 have Ly:aV.heap.objs.size≠H1.objs.size:=by rw[j8];exact(Nat.succ_ne_self _).symm
 have g2: ∀a o,aV.heap.get? a=some o->h'.get? a=some o:=λa o e=>tB.extBut a o (λq=>by
  have:=Heap.lt_size (g1 a o e);rw[q] at this;exact Nat.lt_irrefl _ this) (Heap.get?_push_of_some _ (g1 a o e))
 have Yp:h'.get? aV.heap.objs.size=some (cw #[] 0):=tB.extBut _ _ Ly (Heap.get?_push_of_some _ Lw)
 have ba:At af m X aR ap {aV with heap:=h',toks:=aV.toks+([]:ae (Str×Value)).length}:=aL.grow g2
 have VH:At af m X aR ap {aV with heap:=H1}:=aL.grow (t:=aV.toks) g1
 have OD:=bM.fresh aL
 have OC:=bM.fresh VH
 have Lz: ∀a∈fp,a<aV.heap.objs.size:=λa ha=>let⟨o,ho⟩:=hZ.d_ gS a ha;Heap.lt_size ho
 have S:CS Z af m (λω=>none) X aR ap H1.objs.size aV.heap.objs.size iv fp [] l {aV with heap:=h',toks:=aV.toks+([]:ae (Str×Value)).length}:=by
  refine⟨ba,λa ha=>?_,Ly.symm,λhm=>?_,λhm=>?_,⟨_,DQ,λx b e=>nomatch e⟩,⟨#[],0,Yp,.nil⟩,hZ.same gS (PM.le.refl _) λa ha=>?_⟩
  .rcases aY.mp ha with e |ha
   .exact e▸OC _ (.head _)
   .rcases aY.mp ha with e |ha
    .exact e▸OD _ (.head _)
    .exact C7 a ha
  .have:=Lz _ hm;rw[j8] at this;exact ax this (Nat.not_lt.mpr (Nat.le_succ _))
  .exact Nat.lt_irrefl _ (Lz _ hm)
  .obtain⟨o,ho⟩:=hZ.d_ gS a ha
   exact(g2 a o ho).trans ho.symm
 have K:=k _ _ iv fp l aR ap _ Z hZ aJ S hq
 have hv: ∀x∈(scope.names.filter λx=>(x.2== .local||x.2== .cell)&&x.1 != (".0":Str)).reverse,x.2= .local->(fL scope cl af H1.objs.size).kindOf x.1=some .local:=λx hx hl=>H.names x (rV.mp (ae.mem_reverse.mp hx)).1 hl
 have wh: ∀x∈(scope.names.filter λx=>(x.2== .local||x.2== .cell)&&x.1 != (".0":Str)).reverse.drop 1++(scope.names.filter λx=>(x.2== .local||x.2== .cell)&&x.1 != (".0":Str)).reverse.take 1,
   x.2= .local->(fL scope cl af H1.objs.size).kindOf x.1=some .local:=λx hx hl=>by
  rcases cy.mp hx with h1 |h1
  .exact hv x (ae.mem_of_mem_drop h1) hl
  .exact hv x (ae.mem_of_mem_take h1) hl
 refine cq (wb (lq (cq (wpAny_run (h:=none) (lV K λr s' hr=>?_)))))
 cases r with
 |error e=>exact hr.elim
 |ok f=>
  cases use with
  |none=>
   obtain⟨⟨mc,hn⟩,hr⟩:=hr
   exact wb (cq (N_ (cenv:=fL scope cl af H1.objs.size) H.kind _ s' mc hv hn λh' m' ω eX=>aq (hr h' eX)))
  |some u=>
   refine wb (fj (wb (cq (bT hr (λω nY wy=>?_) λω ω e=>e))))
   obtain⟨⟨mc,hn⟩,wy⟩:=wy
   exact wb (N_ (cenv:=fL scope cl af H1.objs.size) H.kind _ nY mc wh hn λh' m' ω eX=>aq (wy h' eX))
abbrev Yq(I:Nat->ae AV->ah->Prop)(i:Nat)(acc:ae AV):AV->ah->Prop:=λb σ=>acc.length<sizeLine/\I (i+1) (acc++[b]) σ
abbrev Yr(n:Nat)(af:Env)(elt:Expr)(m:au)(I:Nat->ae AV->ah->Prop)(i:Nat)(acc:ae AV):Bool->ah->Prop:=λok σ=>if ok then aQ n af elt m σ (Yq I i acc) else I (i+1) acc σ
abbrev LA(n:Nat)(af:Env)(elt:Expr)(ifs:ae Expr)(I:Nat->ae AV->ah->Prop)(i:Nat)(acc:ae AV):au->ah->Prop:=λm σ=>CC n af ifs m σ (Yr n af elt m I i acc)
def CD(n:Nat)(af:Env)(scope:Scope)(cl:ae (Str×Addr))(target elt:Expr)(ifs:ae Expr)(m:au)(l:ae AV)(I:Nat->ae AV->ah->Prop):Prop:=
 ∀C i a acc σ,l[i]? =some a->I i acc σ->let ce:=fL scope cl af C;let cm:=oX scope af m λω=>none;let J:=I;fw n ce target a cm σ (LA n ce elt ifs J i acc)
def CE(n:Nat)(af:Env)(scope:Scope)(cl:ae (Str×Addr))(C:Addr)(target elt:Expr)(ifs:ae Expr)(m mL:au)(l:ae AV)(I:Nat->ae AV->ah->Prop):Prop:=
 ∀i a acc σ,l[i]? =some a->I i acc σ->fw n (fL scope cl af C) target a (oX scope af m mL) σ λm₁ ap=>(∀x b,mL x=some b->(l8 scope af).names.lookup x=some .local/\m₁ x=some b)/\LA n (fL scope cl af C) elt ifs I i acc m₁ ap
theorem fw.mono{t:Expr}{Q Q':au->ah->Prop}(h:fw n af t a m σ Q)(hq: ∀m₁ ap,Q m₁ ap->Q' m₁ ap):fw n af t a m σ Q':=
 λA X P s v hA T r=>bT (h A X P s v hA T r) (λ_ s' ⟨m',P',σ',hP,T',q⟩=>⟨m',P',σ',hP,T',hq _ _ q⟩) λω ω e=>e
theorem CD.LB{target elt:Expr}{ifs:ae Expr}(h:CD n af scope cl target elt ifs m l I)(C:Addr):CE n af scope cl C target elt ifs m (λω=>none) l I:=
 λi a acc σ hl hI=>(h C i a acc σ hl hI).mono λm₁ ap q=>⟨(λx b e=>nomatch e),q⟩
inductive JA(Z:PM->Heap->Value->ae Addr->ae AV->Prop)(af:Env)(m mL:au)(X P:PM)(C D:Addr)(iv:Value)(fp:ae Addr)(l:ae AV)(I:Nat->ae AV->ah->Prop)(k:Nat)(s':Shared):Prop
 |mk (i:Nat) (acc:ae AV) (P':PM) (σ':ah) (e:i+k=l.length) (hP:P.le P') (S:CS Z af m mL X P' σ' C D iv fp acc (l.drop i) s') (h:I i acc σ')
theorem Br(H:kI af m scope cl){D:Addr}{iv:Value}{fp:ae Addr}{qx:ae AV}{d:Nat}(hA:cT n A)(hZ:jn target Z)(hg:gens[d]? =some ⟨target,iter,ifs,0⟩)(DR:gens[d+1]? =none)(S:CS Z af m mL X P σ C D iv fp qx l s)
  (h0:I 0 qx σ) (hb:CE n af scope cl C target elt ifs m mL l I)
  (kk: ∀acc P' σ' s',P.le P'->At af m X P' σ' s'->bM af X P' σ' [C,D]->(∃mc,s'.heap.Ns C mc/\ ∀x,mf G.w.params P' (mL x) (mc x))->(∃items k,s'.heap.get? D=some (cw items k)/\RepL G.w.params P' acc items.toList)->I l.length acc σ'->R (.ok .next) s'):
  fX GM A (.compStart (.ListComp elt gens scope pos) d iv (.ref D) (fL scope cl af C)) R s:=by
 have loop:fX GM A (.compLoop (.ListComp elt gens scope pos) d iv (.ref D) (fL scope cl af C)) R s:=by
  refine GI hg (JA Z af m mL X P C D iv fp l I) (λk aH hI=>?_) l.length ⟨0,qx,P,σ,Nat.zero_add _,PM.le.refl P,S,h0⟩
  obtain⟨i,acc,aR,ap,j7,aJ,ix,aD⟩:=hI
  cases hl:l.drop i with
  |nil=>
   have hi:i=l.length:=BD j7 (Aq.mp hl)
   subst hi
   exact ix.stop hZ hA.handled hl λbA aV bm ba gy lG lH=>kk acc bA ap aV (aJ.trans bm) ba gy lG lH aD
  |cons x r=>
   have hx:=lc hl
   have bj:i<l.length:=BE hl
   refine ix.next hZ hl (λv gR z=>z) λv bA aV bm rv kO=>?_
   have Dc:=kO.enter (scope:=scope) H.ok H.fn
   refine bT (hb i x acc ap hx.1 aD A _ bA aV v hA Dc rv) (λω eJ pq=>?_) λω ω e=>e
   obtain⟨iw,eK,dZ,cX,c8,JB,bK⟩:=pq
   refine aC.with (bK A _ eK eJ hA c8) λok gR mA sO b jo gx WD dO=>?_
   subst WD
   cases b with
   |false=>
    have jU:=kO.leave hZ (cX.trans jo) gx JB
    exact⟨k - 1,(oG j7 bj).1,i+1,acc,mA,sO,(oG j7 bj).2,aJ.trans (bm.trans (cX.trans jo)),by rw[hx.2];exact jU,dO⟩
   |true=>
    refine TC.S6 DR ?_
    refine aC.with (dO A _ mA gR hA gx) λy o_ pc oV b kK i7 vL pq=>?_
    obtain⟨hz,di⟩:=pq
    have WE:=kO.leave hZ ((cX.trans jo).trans kK) i7 JB
    exact WE.push hZ vL hz λvQ WF=>⟨k - 1,(oG j7 bj).1,i+1,acc++[b],pc,oV,(oG j7 bj).2,aJ.trans (bm.trans ((cX.trans jo).trans kK)),by rw[hx.2];exact WF,di⟩
 exact Gl hg loop (hZ.again S.it loop)
theorem xz{D:Addr}{acc:ae AV}(T:At af m X P σ s)(O:bM af X P σ [C,D])(ne:C≠D)(ha: ∃items k,s.heap.get? D=some (cw items k)/\RepL G.w.params P acc items.toList){R:Prop}
  (kk: ∀P',P.le P'->RepV G.w.params P' (.lst acc) (.ref D)->bM af X P' σ [C]->At af m X P' σ s->R):R:=by
 obtain⟨items,k,hd,r⟩:=ha
 have d:=O D (.tail _ (.head _))
 have hle:=oR (cw items k) d.2.2.1
 refine kk _ hle (.lst (iS ..) (r.mono hle)) (λa ha=>?_) (T.qB d hd)
 cases aW.mp ha
 have c:=O C (.head _)
 exact⟨c.1,c.2.1,(lw P _ ne).trans c.2.2.1,c.2.2.2⟩
theorem At.y6(T:At af m X P σ s)(O:bM af X P σ [C])(hs:Heap.SameBut C s.heap h'):At af m X P σ {s with heap:=h'}:=
 T.ext (t:=s.toks) O λb o hb e=>(hs.2 b (λq=>hb (by rw[q];exact .head _))).trans e
inductive yn(n:Nat)(af:Env)(scope:Scope)(cl:ae (Str×Addr))(target elt:Expr)(ifs:ae Expr)(m:au)(Q:ae AV->ah->Prop)(l:ae AV)(ap:ah):Prop
 |mk (I:Nat->ae AV->ah->Prop) (h0:I 0 [] ap) (hb:CD n af scope cl target elt ifs m l I) (he: ∀acc aO,I l.length acc aO->Q acc aO)
theorem fG{Q:AV->ah->Prop}(cl:ae (Str×Addr))
  (h:iy n af target iter m σ (yn n af scope cl target elt ifs m λacc=>Q (.lst acc))) (H:kI af m scope cl:=by exact wv) (hs: ∀x,pure x=g0 iter af x:=by exactλω=>rfl):
  aQ n af (.ListComp elt [⟨target,iter,ifs,0⟩] scope pos) m σ Q:=by
 intro A X P s hA T
 show ai _ _ (comprehension _ scope af _ (qm []) false (eval iter af)) _ _ s
 refine xV H (λx=>(hs x).symm) hA T h λC D iv fp l aR ap aH Z hZ aJ S hq=>?_
 obtain⟨I,h0,hb,he⟩:=hq
 refine Br H hA hZ rfl rfl S h0 (hb.LB C) λacc bA aO aV bm ba gy ⟨CF,lG,_⟩ lH aI=>⟨⟨CF,lG⟩,λh' eX=>?_⟩
 refine xz ba gy S.cd lH λeK cX fO iz c8=>?_
 exact⟨eK,aO,_,(aJ.trans bm).trans cX,c8.y6 iz eX,fO,he _ _ aI⟩
theorem Uv{Q:AF->au->ah->Prop}{px:Pos}(cl:ae (Str×Addr))(H:kI af m scope cl)(hs: ∀x,g0 iter af x=pure x)(hx:af.kindOf x=some .local)
  (q8:uw (.ListComp elt [⟨target,iter,ifs,0⟩] scope pos) (some (.Name x px)) pos'.line af=pure true)
  (h:iy n af target iter m σ (yn n af scope cl target elt ifs m λacc=>Q .next (fN m x (.lst acc)))):
  jR n af (.Assign [.Name x px] (.ListComp elt [⟨target,iter,ifs,0⟩] scope pos) pos') m σ Q:=by
 intro A X P s hA T
 rw[Nx (hs:=q8)]
 refine wb (fi (wb ?_))
 rw[M_]
 show ai _ _ (comprehension _ scope af _ (qm []) false (eval iter af) (some _)>>=_) _ _ s
 refine wb (xV H hs hA T h λC D iv fp l aR ap aH Z hZ aJ S hq=>?_)
 obtain⟨I,h0,hb,he⟩:=hq
 refine Br H hA hZ rfl rfl S h0 (hb.LB C) λacc bA aO aV bm ba gy lG lH aI=>?_
 refine xz ba gy S.cd lH λeK cX fO iz c8=>?_
 obtain⟨mc,hn,_⟩:=lG
 obtain⟨oC,hC⟩:=Heap.Ns.some hn
 have gx:=c8.dD iz
 refine Ax (oB gx fO hx H.fn λgR i7=>?_)
 obtain⟨qL,vR,vS⟩:=i7.qe iz λa ha=>by rw[aW] at ha;exact⟨oC,ha▸hC⟩
 refine⟨⟨mc,Heap.Ns.same hn (vR C (.head _))⟩,λh' eX=>aq (aq ?_)⟩
 exact⟨_,eK,aO,.next,(aJ.trans bm).trans cX,qL.y6 vS eX,.next,he _ _ aI⟩
end
section
variable{n:Nat}{af:Env}{m:au}{σ:ah}
inductive VJ(a:AV)(σ:ah)(b:AV)(σ':ah):Prop
 |mk (e:b=a) (e':σ'=σ)
theorem qj{scope:Scope}{cl:ae (Str×Addr)}{target elt:Expr}{Q:ae AV->ah->Prop}{L:ae α}{f:α->AV}(g:α->AV)(hz:L.length<=sizeLine)
  (hb: ∀C x,x∈L->fw n (fL scope cl af C) target (f x) (oX scope af m λω=>none) σ λm₁ ap=>aQ n (fL scope cl af C) elt m₁ ap (VJ (g x) σ))
  (he:Q (L.map g) σ):yn n af scope cl target elt [] m Q (L.map f) σ:=by
 refine⟨λi acc σ'=>σ'=σ/\acc=(L.take i).map g,⟨rfl,rfl⟩,λC i a acc σ' hi hI=>?_,λacc σ' hI=>?_⟩
 .obtain⟨e1,e2⟩:=hI
  subst e1 e2
  rw[cP] at hi
  obtain⟨x,hx,rfl⟩:=dA.mp hi
  refine(hb C x (cO hx)).mono λm₁ ap h=>iV ?_
  show aQ _ _ _ _ _ _
  refine h.mono λb dZ q=>?_
  obtain⟨e,e'⟩:=q
  subst e e'
  refine⟨?_,rfl,?_⟩
  .rw[ar,jA]
   exact Nat.lt_of_lt_of_le (Nat.lt_of_le_of_lt (Nat.min_le_left ..) (cV.mp hx).1) ‹_›
  .rw[fh,hx,bX];rfl
 .obtain⟨e1,e2⟩:=hI
  subst e1 e2
  rw[ar,g8]
  exact he
end
mutual
noncomputable def fY:AV->Nat
 | .tup l=>qk l+1
 |_=>1
noncomputable def qk:ae AV->Nat
 |[]=>0
 |a::r=>fY a+qk r
end
theorem Ga(p:bg): ∀l,uS p l=l.map (gj p)
 |[]=>rfl
 |a::r=>congrArg (gj p a:: ·) (Ga p r)
theorem FB: ∀l r,qk (l++r)=qk l+qk r
 |[],r=>(Nat.zero_add _).symm
 |a::l,r=>(congrArg (fY a+ ·) (FB l r)).trans (Nat.add_assoc ..).symm
section
variable{s:Shared}{A:bo}
abbrev RH(h:Heap):AV->Value->Prop:=RepV G.w.params h.get?
theorem xW(r:RH h (.tup l) v): ∃a items k,v= .ref a/\h.get? a=some (dE items k)/\RepL G.w.params h.get? l items.toList:=by
 cases r using RepV.tupE with |tup h r=>exact⟨_,_,_,rfl,h,r⟩
def JC(k:Nat):Prop:= ∀(A:bo) (E:Value->Shared->Prop) (s:Shared) (a:AV) (v:Value) (Q:aj->Shared->Prop),aM k a->RH s.heap a v->A.units+k<cLine->
 Q (gj G.w.params a) {s with toks:=s.toks+fY a}->ai GM A (pyHash v) Q E s
inductive VK(s:Shared)(l:ae AV)(rest:ae Value)(b:ay aj)(s':Shared):Prop
 |mk (done left:ae AV) (e:l=done++left) (hl:RepL G.w.params s.heap.get? left rest) (hb:b.toList=done.map (gj G.w.params)) (hs:s'={s with toks:=s.toks+qk done})
theorem Q4(ih:JC k){Q:aj->Shared->Prop}(d: ∀a∈l,aM k a)(r:RH s.heap (.tup l) v)(hu:A.units+(k+1)<cLine)
  (h:Q (gj G.w.params (.tup l)) {s with toks:=s.toks+fY (.tup l)}):ai GM A (pyHash v) Q E s:=by
 obtain⟨a,items,c,rfl,ho,rl⟩:=xW r
 have hT:s.TypeIs (.ref a) "tuple":=⟨_,ho,rfl⟩
 unfold pyHash
 unfold pyHashByItsType
 refine wb (wpAny_cRoomFor_or (.inr (Nat.lt_of_le_of_lt (Nat.le_add_right _ _) hu)) ?_)
 refine wb (lU hT PySem.F.slot_tuple_hash.lookup (wp_if_no (λq=>Bool.false_ne_true ((Oe _).symm.trans q)) ?_))
 refine wb (lU hT PySem.F.slot_tuple_hash.lookup ?_)
 refine wb (wpAny_callSpecialIfBoundUnlessNone?_slot hT PySem.F.slot_tuple_hash (dY PySem.F.slot_tuple_hash hT PySem.F.entry_tuple_hash ?_ (PySem.F.args_tuple_hash_1 _)))
 show ai _ _ (MW (.ref a)>>=_) _ _ s
 refine wb (NU ho rfl (wb ?_))
 rewrite [<- NQ]
 refine Fy _ (VK s l) _ ?_ ?_ _ _ ⟨[],l,rfl,rl,rfl,rfl⟩
 .rintro x rest b s' ⟨done,left,e,hl,hb,rfl⟩
  cases hl with
  | @cons y _ VL _ r1 tC=>
   exact wb (ih A.in1 _ _ y x _ (d y (e▸iN _ (.head _))) r1 (by show A.units+1+k<_;rw[Nat.add_right_comm];exact hu) (aq ⟨done++[y],VL,e.trans (Of ..),tC,t6.trans ((congrArg (· ++[_]) hb).trans (bX (l₁:=done) (l₂:=[y])).symm),congrArg (λn=>{s with toks:=n}) ((Nat.add_assoc ..).trans (congrArg (s.toks+ ·) (FB done [y]).symm))⟩))
 .rintro b s' ⟨done,left,e,hl,hb,rfl⟩
  cases hl
  rw[lT] at e
  subst e
  show ai _ _ (retInt (Ah b.toList)) _ _ _
  rw[hb,<- Ga]
  refine wpAny_ret_mkInt ?_
  have h:Q (Gi (Ah (uS G.w.params l))) {s with toks:=s.toks+qk l+1}:=h
  generalize Ah (uS G.w.params l)=z at h
  unfold Gi at h
  show ai _ _ (if(decide (-(2:aj)^63<=z)&&decide (z<2^63))=true then _ else _) Q E _
  by_cases hr:(decide (-(2:aj)^63<=z)&&decide (z<2^63))=true
  .rw[if_pos hr] at h
   exact wp_if_yes hr (aq h)
  .rw[aK hr] at h
   exact wp_if_no hr (wb (fj (aq h)))
theorem G9(k:Nat):JC k:=by
 induction k with
 |zero=>
  intro A E s a v Q d r hu h
  cases d with
  |int=>cases r;exact Oa h
  |str=>cases r;exact N' h
 |succ k ih=>
  intro A E s a v Q d r hu h
  cases d with
  |int=>cases r;exact Oa h
  |str=>cases r;exact N' h
  |tup d=>exact Q4 ih d r hu h
theorem qo{P:PM}(r:RepL p P l vs):v∈vs-> ∃a,a∈l/\RepV p P a v:=
 r.ind (M:=λl vs ω=>v∈vs-> ∃a,a∈l/\RepV p P a v) nofun λr1 ω ih h=>(aY.mp h).elim (λh=>⟨_,.head _,h▸r1⟩) λh=>(ih h).imp λω h=>⟨.tail _ h.1,h.2⟩
inductive yL{β:Type}(s:Shared)(Q:β->Shared->Prop)(b0:β):e_ β->Shared->Prop
 |yield:yL s Q b0 (.yield b0) s
 |done {b:β} {s':Shared} (h:Q b s'):yL s Q b0 (.done b) s'
theorem G_{M:Model}{l:ae α}{b0:β}{f:α->β->bw (e_ β)}{Q:β->Shared->Prop}(hq:Q b0 s)(hf: ∀x∈l,ai M A (f x b0) (yL s Q b0) E s):ai M A (gO l b0 f) Q E s:=by
 refine Fy f (λrest b s'=>b=b0/\s'=s/\ ∀x∈rest,x∈l) Q ?_ ?_ l b0 ⟨rfl,rfl,λω h=>h⟩
 .rintro x rest b s' ⟨rfl,rfl,hs⟩
  exact bT (hf x (hs _ (.head _))) (λr s q=>by
   cases q with
   |yield=>exact⟨rfl,rfl,λy hy=>hs y (.tail _ hy)⟩
   |done h=>exact h) λω ω e=>e
 .rintro b s' ⟨rfl,rfl,hs⟩
  exact hq
theorem Cb{M:Model}{l:ay α}{b0:β}{f:α->β->bw (e_ β)}{Q:β->Shared->Prop}(hq:Q b0 s)(hf: ∀x∈l.toList,ai M A (f x b0) (yL s Q b0) E s):ai M A (gO l b0 f) Q E s:=by
 rewrite [<- NQ];exact G_ hq hf
theorem BK{m:Nat}(h:k+1<=m){C:Nat->Prop}(f: ∀j,k<=j->C (j+1)):C m:=by
 cases m with
 |zero=>exact ax h (Nat.not_succ_le_zero _)
 |succ j=>exact f j (Nat.le_of_succ_le_succ h)
theorem Ba(d:aM k a): ∀{m:Nat} {v:Value} {Q:Bool->Shared->Prop},k<=m->RH s.heap a v->Q true s->ai GM A (GA m v) Q E s:=by
 induction d with
 |int=>intro m v Q hk r h;cases r;rw[N5 m rfl];exact aq h
 |str=>intro m v Q hk r h;cases r;rw[N5 m rfl];exact aq h
 |tup d ih=>
  intro m v Q hk r h
  obtain⟨a,items,c,rfl,ho,rl⟩:=xW r
  have hT:s.TypeIs (.ref a) "tuple":=⟨_,ho,rfl⟩
  refine BK (C:=λm=>ai GM A (GA m (.ref a)) Q E s) hk λm hk=>?_
  unfold GA
  refine wb (lU hT PySem.F.slot_tuple_eq.lookup ?_)
  show ai _ _ (isInstance (.ref a) (.type "tuple")>>=_) _ _ s
  refine wb (t8 hT isSubtype_tuple_tuple (wp_if_no Bool.false_ne_true ?_))
  refine wb (jC ho rfl (wb ?_))
  exact Cb (aq h) λv hv=>(qo rl hv).elim λb hb=>wb (ih b hb.1 hk hb.2 (wp_if_no Bool.false_ne_true (aq .yield)))
theorem RepL.imp{P:PM}(r:RepL p P l vs):(∀a v,a∈l->RepV p P a v->RepV p P' a v)->RepL p P' l vs:=
 r.ind (M:=λl vs ω=>(∀a v,a∈l->RepV p P a v->RepV p P' a v)->RepL p P' l vs) (λω=> .nil) λr1 ω i h=> .cons (h _ _ (.head _) r1) (i λa v ha=>h a v (.tail _ ha))
theorem Pe{d:Addr}{o:Obj}{es:ay DictEntry}(ho:h.get? d=some o)(hd:o.data= .dict es ep)(hs:Heap.SameBut d h h'):
  ∀(k:Nat) {a:AV} {v:Value},aM k a->RepV p h.get? a v->RepV p h'.get? a v:=by
 intro k
 induction k with
 |zero=>intro a v da r;cases da<;>cases r<;>constructor
 |succ k ih=>
  intro a v da r
  cases da with
  |int=>cases r;constructor
  |str=>cases r;constructor
  |tup da=>
   cases r with
   | @tup l x items n hx rl=>
    have cj:x≠d:=by
     rintro rfl
     rw[hx] at ho;cases ho
     exact nomatch hd
    refine .tup ((hs.2 x cj).trans hx) ?_
    exact RepL.imp rl λa v ha r1=>ih (da a ha) r1
theorem yp{u:Value}{Q:Bool->Shared->Prop}(da:aM k a)(db:aM k b)(ra:RH s.heap a u)(rb:RH s.heap b v)(hu:A.units+k<cLine)(h:Q (decide (a=b)) s):ai GM A (eqBool u v) Q E s:=
 tu (P:=s.heap.get?) (λω ω e=>e) k a b u v A da db ra rb hu _ _ _ _ h
noncomputable def TK:HeapKind G.prog G.w (ae AV) where
 is:=λh ks a=>aM 4 (.tup ks)/\RH h (.tup ks) (.ref a)
 hash:=λks=>gj G.w.params (.tup ks)
 draws:=λks=>fY (.tup ks)
 room:=λA=>A.units+20<cLine
 inj:=λ{h a x y} ⟨d,r⟩ ⟨d',r'⟩=>by
  have:=yc 4 _ _ _ d d' r r'
  injection this
 keeps:=λ⟨d,r⟩ ho hd hs=>⟨d,Pe ho hd hs 4 d r⟩
 pyHash:=λ{A E s k a Q} hu ⟨d,r⟩ h=>G9 4 A E s _ _ Q d r (by lia) h
 eqBool:=λ{A E s x y a b Q} hu ⟨d,r⟩ ⟨d',r'⟩ h=>yp d d' r r' (by lia) (by simpa using h)
 quiet:=λ⟨d,r⟩ h=>Ba d (by decide) r h
end
noncomputable def f6:ae (AV×AV)->AV->aB AV
 |[],_=>none
 |(y,b)::r,k=>if y=k then some b else f6 r k
noncomputable def iB:ae (AV×AV)->AV->AV->ae (AV×AV)
 |[],k,c=>[(k,c)]
 |(y,b)::r,k,c=>if y=k then(y,c)::r else(y,b)::iB r k c
noncomputable def pj:ae (AV×AV)->AV->ae (AV×AV)
 |[],_=>[]
 |(y,b)::r,k=>if y=k then r else(y,b)::pj r k
noncomputable def gF(l:ae (AV×AV))(k:AV):aB Nat:=l.findIdx? λe=>decide (e.1=k)
theorem HX{y k:AV}{r:ae (AV×AV)}(e:y=k):gF ((y,b)::r) k=some 0:=by
 unfold gF;rw[xo,decide_eq_true e];rfl
theorem IO{y k:AV}{r:ae (AV×AV)}(e: ¬y=k):gF ((y,b)::r) k=(gF r k).map (· +1):=by
 unfold gF;rw[xo,cu e];rfl
theorem xX{l:ae (AV×AV)}{k:AV}:gF l k=none->f6 l k=none/\(∀c,iB l k c=l++[(k,c)])/\pj l k=l:=by
 induction l with
 |nil=>exactλω=>⟨rfl,λω=>rfl,rfl⟩
 |cons p r ih=>
  intro h
  by_cases e:p.1=k
  .rw[HX e] at h;cases h
  .have i:=ih (Np.mp ((IO e).symm.trans h))
   exact⟨(aK e).trans i.1,λc=>(aK e).trans (congrArg (A5 _) (i.2.1 c)),(aK e).trans (congrArg (A5 _) i.2.2)⟩
theorem xY{l:ae (AV×AV)}{k:AV}: ∀{i:Nat},gF l k=some i-> ∃b,l[i]? =some (k,b)/\f6 l k=some b/\(∀c,iB l k c=l.modify i λe=>(e.1,c))/\pj l k=l.eraseIdx i:=by
 induction l with
 |nil=>exact nofun
 |cons p r ih=>
  intro i h
  by_cases e:p.1=k
  .cases (HX e).symm.trans h
   exact⟨p.2,congrArg (λx=>some (x,p.2)) e,if_pos e,λc=>if_pos e,if_pos e⟩
  .obtain⟨j,hj,rfl⟩:=dA.mp ((IO e).symm.trans h)
   exact(ih hj).imp λc q=>⟨q.1,(aK e).trans q.2.1,λc=>(aK e).trans (congrArg (A5 _) (q.2.2.1 c)),(aK e).trans (congrArg (A5 _) q.2.2.2)⟩
theorem Gb(l:ae (AV×AV))(k c:AV):(iB l k c).length<=l.length+1:=by
 induction l with
 |nil=>exact Nat.le_refl _
 |cons a r ih=>
  show(if a.1=k then(a.1,c)::r else(a.1,a.2)::iB r k c).length<=_
  by_cases h:a.1=k
  .rw[if_pos h];exact Nat.le_succ _
  .rw[aK h];exact Nat.succ_le_succ ih
theorem yd{P:PM}{i:aj}(r:RepV p P (.int i) v): ∃t,v= .int i t:=by cases r;exact⟨_,rfl⟩
theorem HY{P:PM}{i:Str}(r:RepV p P (.str i) v): ∃t,v= .str i t:=by cases r;exact⟨_,rfl⟩
theorem FM(q:α->Bool)(es:ay α):es.findIdx? q=es.toList.findIdx? q:=by obtain⟨l⟩:=es;simp
noncomputable def dp:AV->Nat
 | .int _=>0
 | .str _=>1
 | .tup _=>2
 |_=>3
theorem P8(i x:aj)(t:el):Value.isInt i (.int x t)=decide (AV.int x=AV.int i):=by
 by_cases q:x=i
 .subst q;simp[Value.isInt]
 .have: ¬i=x:=λe=>q e.symm
  simp[Value.isInt,q,this]
theorem P9(i x:Str)(t:el):Value.isStrOf i (.str x t)=decide (AV.str x=AV.str i):=by
 by_cases q:x=i
 .subst q;simp[Value.isStrOf]
 .have: ¬i=x:=λe=>q e.symm
  simp[Value.isStrOf,q,this]
theorem sE{m n:Nat}{p:Prop}(h:m=n)(q:Nat.beq m n=false):p:=ax h (Nat.ne_of_beq_eq_false q)
theorem BL(h:dp a=0): ∃i,a= .int i:=by
 cases a with
 |int i=>exact⟨i,rfl⟩
 |_=>exact sE h rfl
theorem BM(h:dp a=1): ∃i,a= .str i:=by
 cases a with
 |str i=>exact⟨i,rfl⟩
 |_=>exact sE h rfl
theorem BN(h:dp a=2): ∃l,a= .tup l:=by
 cases a with
 |tup i=>exact⟨i,rfl⟩
 |_=>exact sE h rfl
structure ja(l:ae (AV×AV))(k:AV):Prop where
 dk:aM 4 k
 dat: ∀e∈l,aM 4 e.1
 tag: ∀e∈l,dp e.1=dp k
 nd:(l.map (·.1)).Nodup
theorem bv.findIdx{p:bg}{P:PM}(q:Value->Bool)(k:AV){l:ae (AV×AV)}{es:ae DictEntry}(r:bv p P l es):(∀a u,(∃b,(a,b)∈l)->RepV p P a u->q u=decide (a=k))->es.findIdx? (λe=>q e.key)=gF l k:=by
 induction r using bv.ind with
 |h0=>exactλω=>rfl
 | @h1 a b kv v l es rk rv r ih=>
  intro h
  unfold gF
  rw[xo,xo,ih λa u ⟨b,hb⟩=>h a u ⟨b,.tail _ hb⟩]
  exact congrArg (λc=>if c=true then some 0 else(gF l k).map (· +1)) (h a _ ⟨b,.head _⟩ rk)
theorem bv.get{P:PM}{l:ae (AV×AV)}{es:ae DictEntry}(r:bv p P l es): ∀{i:Nat} {k b:AV},l[i]? =some (k,b)-> ∃kv v,es[i]? =some ⟨gj p k,kv,v⟩/\RepV p P k kv/\RepV p P b v:=by
 induction r using bv.ind with
 |h0=>exact nofun
 |h1 rk rv r ih=>
  intro i k b e
  cases i with
  |zero=>cases e;exact⟨_,_,rfl,rk,rv⟩
  |succ i=>exact ih (i:=i) e
theorem bv.modify{P:PM}{c:AV}{w:Value}(rc:RepV p P c w){l:ae (AV×AV)}{es:ae DictEntry}(r:bv p P l es): ∀(i:Nat),bv p P (l.modify i λe=>(e.1,c)) (es.modify i λe=>{e with val:=w}):=by
 induction r using bv.ind with
 |h0=>intro i;rw[Ov,Ov];exact .nil
 |h1 rk rv r ih=>
  intro i
  cases i with
  |zero=>exact .cons rk rc r
  |succ i=>exact .cons rk rv (ih i)
theorem bv.erase{P:PM}{l:ae (AV×AV)}{es:ae DictEntry}(r:bv p P l es): ∀(i:Nat),bv p P (l.eraseIdx i) (es.eraseIdx i):=by
 induction r using bv.ind with
 |h0=>exactλω=> .nil
 |h1 rk rv r ih=>
  intro i
  cases i with
  |zero=>exact r
  |succ i=>exact .cons rk rv (ih i)
theorem bv.append{P:PM}{l l':ae (AV×AV)}{es be:ae DictEntry}(r:bv p P l es)(k:bv p P l' be):bv p P (l++l') (es++be):=
 r.ind (M:=λl es ω=>bv p P (l++l') (es++be)) k λrk rv ω ih=> .cons rk rv ih
section
variable{n:Nat}{X P:PM}{σ:ah}{s:Shared}{A:bo}
theorem Q5{l:ae (AV×AV)}{es:ae DictEntry}(r:bv G.w.params P l es)(hp:P.le s.heap.get?)(hd: ∀e∈l,aM 4 e.1)(ht: ∀e∈l,dp e.1=2):
  ∃xs:ae (ae AV×Addr×Value),es=xs.map (entryOfKey (TK))/\(∀x∈xs,(TK).is s.heap x.1 x.2.1)/\xs.map (λx=>AV.tup x.1)=l.map (·.1):=by
 induction l generalizing es with
 |nil=>cases r;exact⟨[],rfl,λx hx=>ax hx jf,rfl⟩
 |cons e l ih=>
  obtain⟨k,b⟩:=e
  have dk:=hd _ (.head _)
  obtain⟨ks,e⟩:=BN (ht _ (.head _))
  replace e:k= .tup ks:=e
  subst e
  cases r with
  | @cons _ _ kv v _ es rk rv r=>
  obtain⟨xs,h1,h2,h3⟩:=ih r (λe he=>hd e (.tail _ he)) λe he=>ht e (.tail _ he)
  have DS:=rk.mono hp
  cases rk using RepV.tupE with
  | @tup a items m ha rl=>
  refine⟨(ks,a,v)::xs,by rw[h1];rfl,λx hx=>?_,congrArg (AV.tup ks:: ·) h3⟩
  rcases aY.mp hx with e |hx
  .exact e▸⟨dk,DS⟩
  .exact h2 x hx
theorem S8{xs:ae (ae AV×Addr×Value)}{l:ae (AV×AV)}(h3:xs.map (λx=>AV.tup x.1)=l.map (·.1))(ks:ae AV):
  ((∀(j:Nat) (p:Addr×Value),xs[j]? ≠some (ks,p))->gF l (.tup ks)=none)/\((l.map (·.1)).Nodup-> ∀(j:Nat) (p:Addr×Value),xs[j]? =some (ks,p)->gF l (.tup ks)=some j):=by
 have key: ∀j:Nat,(xs[j]?).map (λ(x:ae AV×Addr×Value)=>AV.tup x.1)=(l[j]?).map (λ(x:AV×AV)=>x.1):=λj=>by
  rw[<- cP,<- cP,h3]
 refine⟨λhn=>?_,λmO j p hj=>?_⟩
 .unfold gF
  rw[ae.findIdx?_eq_none_iff]
  intro e he
  obtain⟨j,hj⟩:=Fg.mp he
  refine cu λq=>?_
  have:=key j
  rw[hj] at this
  cases hx:xs[j]? with
  |none=>rw[hx] at this;cases this
  |some x=>
   rw[hx] at this
   simp only[AE,aB.some.injEq] at this
   rw[q] at this
   injection this with this
   exact hn j x.2 (by rw[hx,<- this])
 .have h0:=key j
  rw[hj] at h0
  cases hl:l[j]? with
  |none=>rw[hl] at h0;cases h0
  |some e=>
   rw[hl] at h0
   simp only[AE,aB.some.injEq] at h0
   unfold gF
   rw[ae.findIdx?_eq_some_iff_getElem]
   obtain⟨bj,he⟩:=cV.mp hl
   refine⟨bj,decide_eq_true (by rw[he,h0]),λi hi=>?_⟩
   have cj:(l[i]'(Nat.lt_trans hi bj)).1≠AV.tup ks:=λq=>by
    have dT:i<(l.map (·.1)).length:=by rw[ar];exact Nat.lt_trans hi bj
    have e1:(l.map (·.1))[i]? =some (AV.tup ks):=by rw[cP,cL (Nat.lt_trans hi bj),AE,q]
    have e2:(l.map (·.1))[j]? =some (AV.tup ks):=by rw[cP,hl,AE,<- h0]
    exact Nat.ne_of_lt hi ((N0 dT mO).mp (e1.trans e2.symm))
   exactλz=>cj (k9 z)
theorem yq{d:Addr}{es:ay DictEntry}{c:Nat}{l:ae (AV×AV)}{k:AV}{key:Value}{Q:aB Nat->Shared->Prop}(hp:P.le s.heap.get?)(ho:s.heap.get? d=some (bZ es c))(r:bv G.w.params P l es.toList)(K:ja l k)
  (rk:RepV G.w.params P k key) (hu:A.units+20<cLine) (h:Q (gF l k) s):ai GM A (dictFind d key (gj G.w.params k)) Q E s:=by
 have keys: ∀{K':Type} [DecidableEq K'] (knd:KeyKind G.prog G.w K'),(∀e∈es.toList,∃k,knd.is k e.key=true/\e.hash=knd.hash k)->KeysOf knd es:=λknd h e he=>h e he.val
 have ents: ∀e∈es.toList,∃a b,(a,b)∈l/\RepV G.w.params P a e.key/\e.hash=gj G.w.params a:=by
  intro e he
  obtain⟨j,hj⟩:=Fg.mp he
  have bj:j<l.length:=by
   rw[r.length];exact(cV.mp hj).1
  obtain⟨kv,v,h1,h2,h3⟩:=r.get (i:=j) (k:=(l[j]).1) (b:=(l[j]).2) (by rw[cL bj])
  rw[hj] at h1;cases h1
  exact⟨_,_,gK bj,h2,rfl⟩
 have dk:=K.dk
 cases dk with
 |int _ i=>
  cases rk with
  |int _ t=>
  refine NX (knd:=intKind G.prog G.w) (k:=i) (ni i) ho rfl (keys _ λe he=>?_) ?_
  .obtain⟨a,b,hm,hr,hh⟩:=ents e he
   obtain⟨x,rfl⟩:=BL (K.tag _ hm)
   obtain⟨t,q⟩:=yd hr
   exact⟨x,q▸ni x,hh⟩
  .rw[FM]
   rw[bv.findIdx (λu=>(intKind G.prog G.w).is i u) (.int i) r ?_]
   .exact h
   .intro a u ⟨b,hb⟩ ra
    obtain⟨x,rfl⟩:=BL (K.tag _ hb)
    obtain⟨t,rfl⟩:=yd ra
    exact P8 i x t
 |str _ i=>
  cases rk with
  |str _ t=>
  refine NX (knd:=PySem.strKind G.prog G.w) (k:=i) (ni i) ho rfl (keys _ λe he=>?_) ?_
  .obtain⟨a,b,hm,hr,hh⟩:=ents e he
   obtain⟨x,rfl⟩:=BM (K.tag _ hm)
   obtain⟨t,q⟩:=HY hr
   exact⟨x,q▸ni x,hh⟩
  .rw[FM]
   rw[bv.findIdx (λu=>(PySem.strKind G.prog G.w).is i u) (.str i) r ?_]
   .exact h
   .intro a u ⟨b,hb⟩ ra
    obtain⟨x,rfl⟩:=BM (K.tag _ hb)
    obtain⟨t,rfl⟩:=HY ra
    exact P9 i x t
 | @tup _ ks _=>
  have DS:=rk.mono hp
  cases rk using RepV.tupE with
  | @tup a items m ha rl=>
  obtain⟨xs,h1,h2,h3⟩:=Q5 (s:=s) r hp K.dat λe he=>(K.tag e he).trans rfl
  obtain⟨i1,i2⟩:=S8 h3 ks
  have mO:(xs.map (·.1)).Nodup:=by
   have:=K.nd
   rw[<- h3] at this
   have e:xs.map (λx=>AV.tup x.1)=(xs.map (·.1)).map AV.tup:=(cQ ..).symm
   rw[e] at this
   exact NB AV.tup (λa b h q=>h (by rw[q])) this
  refine wpAny_dictFind_heap (knd:=TK) (k:=ks) hu ⟨K.dk,DS⟩ ho rfl h1 h2 mO (λhn=>?_) λj p hj=>?_
  .rw[i1 hn] at h;exact h
  .rw[i2 K.nd j p hj] at h;exact h
end
section
variable{n:Nat}{X P:PM}{σ:ah}{s:Shared}{A:bo}
inductive fH(σ:ah):AV->ae (AV×AV)->Prop
 |ca (l:ae (AV×AV)):fH σ (.ca l) l
 |ref {a:Addr} {l:ae (AV×AV)} (h:σ a=some (.dict l)):fH σ (.raw (.ref a)) l
theorem fH.is{l:ae (AV×AV)}(L:fH σ a l)(I:bD X P σ s)(r:RepV G.w.params P a v):
  ∃d es c,v= .ref d/\s.heap.get? d=some (bZ es c)/\bv G.w.params P l es.toList/\(d==um)=false:=by
 have b: ∀d:Addr,d≠1->(d==um)=false:=λd h=>by
  show(d==1)=false
  exact pW.mpr h
 cases L with
 |ca=>cases r using RepV.Wn with |ca h hs r=>exact⟨_,_,_,rfl,I.p _ _ h,r,b _ hs⟩
 |ref h=>
  cases r
  obtain⟨o,ho,ro⟩:=I.st _ _ h
  cases ro
  exact⟨_,_,_,rfl,ho,by assumption,b _ (I.ns _ (by rw[h];exactλz=>nomatch z))⟩
variable{d:Addr}{es:ay DictEntry}{c:Nat}{l:ae (AV×AV)}{k:AV}{key:Value}{E:Value->Shared->Prop}
inductive Dd(p:bg)(P:PM):aB AV->aB Value->Prop
 |none:Dd p P none none
 |some {b:AV} {v:Value} (r:RepV p P b v):Dd p P (some b) (some v)
theorem uG{Q:aj->Shared->Prop}(hp:P.le s.heap.get?)(dk:aM 4 k)(rk:RepV G.w.params P k key)(hu:A.units+20<cLine)(h:Q (gj G.w.params k) {s with toks:=s.toks+fY k}):ai GM A (pyHash key) Q E s:=
 G9 4 A E s k key Q dk (rk.mono hp) (by lia) h
theorem CG(hp:P.le s.heap.get?)(ho:s.heap.get? d=some (bZ es c))(r:bv G.w.params P l es.toList)(K:ja l k)(rk:RepV G.w.params P k key)(hu:A.units+20<cLine)
  (h: ∀ov t,Dd G.w.params P (f6 l k) ov->Q ov {s with toks:=t}):ai GM A (yb d key) Q E s:=by
 unfold yb
 refine cq (wb (uG hp K.dk rk hu (wb (yq (s:={s with toks:=s.toks+fY k}) hp ho r K rk hu ?_))))
 cases hf:gF l k with
 |none=>
  have:=(xX hf).1
  exact aq (h _ _ (by rw[this];exact .none))
 |some i=>
  obtain⟨b,h1,h2,-⟩:=xY hf
  obtain⟨kv,v,h3,-,rv⟩:=r.get h1
  refine cS (ou (s:={s with toks:=s.toks+fY k}) ho rfl ?_)
  have:es[i]? =some ⟨gj G.w.params k,kv,v⟩:=by rw[<- dR];exact h3
  rw[this]
  exact aq (h _ _ (by rw[h2];exact .some rv))
theorem Q6{f:ay DictEntry->ay DictEntry}:Obj.mapDict f (bZ es c)=bZ (f es) c:=rfl
theorem Bs{f:ay DictEntry->ay DictEntry}:Obj.mapDictKeys f (bZ es c)=bZ (f es) (c+1):=rfl
theorem CH{Q:Unit->Shared->Prop}(hp:P.le s.heap.get?)(ho:s.heap.get? d=some (bZ es c))(r:bv G.w.params P l es.toList)(K:ja l k)(rk:RepV G.w.params P k key)(hu:A.units+20<cLine)
  (rb:RepV G.w.params P b v) (hz:l.length<=sizeLine)
  (h: ∀h' be c' t,h'.get? d=some (bZ be c')->bv G.w.params P (iB l k b) be.toList->(∀x,x≠d->h'.get? x=s.heap.get? x)->Q () {s with heap:=h',toks:=t}):ai GM A (ya d key v) Q E s:=by
 have e1:es.size=l.length:=by rw[<- ck,<- r.length]
 unfold ya
 refine cq (wb (uG hp K.dk rk hu ?_))
 unfold dictSetHashed
 refine cq (wb (yq (s:={s with toks:=s.toks+fY k}) hp ho r K rk hu ?_))
 cases hf:gF l k with
 |none=>
  have:=(xX hf).2.1 b
  refine wb (fj (Fo (hz:=by lia) (s:={s with toks:=s.toks+fY k}) ho rfl ?_))
  refine h _ (es.push ⟨gj G.w.params k,key,v⟩) (c+1) _ ((Heap.get?_update_self _ ho rfl).trans (by rw[Bs])) ?_ λx hx=>Heap.get?_update_other _ _ (fm hx)
  rw[this,t6]
  exact r.append (.cons rk rb .nil)
 |some i=>
  obtain⟨Km,h1,h2,h3,-⟩:=xY hf
  refine wb (fj (wb (wpAny_updateDict (s:={s with toks:=s.toks+fY k}) ho rfl (wpAny_point ?_))))
  refine h _ (es.modify i λe=>{e with val:=v}) c _ ((Heap.get?_update_self _ ho rfl).trans (by rw[Q6])) ?_ λx hx=>Heap.get?_update_other _ _ (fm hx)
  rw[h3 b,NH]
  exact bv.modify rb r i
theorem Uw{Q:Value->Shared->Prop}(hp:P.le s.heap.get?)(ho:s.heap.get? d=some (bZ es c))(r:bv G.w.params P l es.toList)(K:ja l k)(rk:RepV G.w.params P k key)(hu:A.units+20<cLine)
  (rb:RepV G.w.params P b v) (hz:l.length<=sizeLine)
  (h1: ∀b' v' t,f6 l k=some b'->RepV G.w.params P b' v'->Q v' {s with toks:=t})
  (h2:f6 l k=none-> ∀h' be c' t,h'.get? d=some (bZ be c')->bv G.w.params P (iB l k b) be.toList->(∀x,x≠d->h'.get? x=s.heap.get? x)->Q v {s with heap:=h',toks:=t}):ai GM A (FK d key v) Q E s:=by
 have e1:es.size=l.length:=by rw[<- ck,<- r.length]
 unfold FK
 refine cq (wb (uG hp K.dk rk hu ?_))
 refine wb (yq (s:={s with toks:=s.toks+fY k}) hp ho r K rk hu ?_)
 cases hf:gF l k with
 |none=>
  obtain⟨q0,q1,-⟩:=xX hf
  refine wb (fj (wb (Fo (hz:=by lia) (s:={s with toks:=s.toks+fY k}) ho rfl (aq ?_))))
  refine h2 q0 _ (es.push ⟨gj G.w.params k,key,v⟩) (c+1) _ ((Heap.get?_update_self _ ho rfl).trans (by rw[Bs])) ?_ λx hx=>Heap.get?_update_other _ _ (fm hx)
  rw[q1 b,t6]
  exact r.append (.cons rk rb .nil)
 |some i=>
  obtain⟨Km,q1,q2,-⟩:=xY hf
  obtain⟨kv,De,q3,-,rv⟩:=r.get q1
  refine cS (ou (s:={s with toks:=s.toks+fY k}) ho rfl ?_)
  have:es[i]? =some ⟨gj G.w.params k,kv,De⟩:=by rw[<- dR];exact q3
  rw[this]
  exact cS (fj (aq (h1 _ _ _ q2 rv)))
theorem Ux{Q:aB DictEntry->Shared->Prop}(hp:P.le s.heap.get?)(ho:s.heap.get? d=some (bZ es c))(r:bv G.w.params P l es.toList)(K:ja l k)(rk:RepV G.w.params P k key)(hu:A.units+20<cLine)
  (hb:f6 l k=some b) (hz:l.length<=sizeLine)
  (h: ∀e h' be c' t,RepV G.w.params P b e.val->h'.get? d=some (bZ be c')->bv G.w.params P (pj l k) be.toList->(∀x,x≠d->h'.get? x=s.heap.get? x)->Q (some e) {s with heap:=h',toks:=t}):ai GM A (Fl d key) Q E s:=by
 have e1:es.size=l.length:=by rw[<- ck,<- r.length]
 unfold Fl
 refine cq (wb (uG hp K.dk rk hu ?_))
 refine wb (yq (s:={s with toks:=s.toks+fY k}) hp ho r K rk hu ?_)
 cases hf:gF l k with
 |none=>rw[(xX hf).1] at hb;cases hb
 |some i=>
  obtain⟨Km,q1,q2,-,q4⟩:=xY hf
  rw[hb] at q2;cases q2
  obtain⟨kv,De,q3,-,rv⟩:=r.get q1
  have:es[i]? =some ⟨gj G.w.params k,kv,De⟩:=by rw[<- dR];exact q3
  have bj:i<es.size:=(tY.mp this).1
  refine cS (ou (s:={s with toks:=s.toks+fY k}) ho rfl ?_)
  rw[this]
  refine cS (Fo (hz:=by lia) (hf:=by rw[Ai];split<;>simp<;>lia) (s:={s with toks:=s.toks+fY k}) ho rfl (aq ?_))
  refine h _ _ (es.eraseIdxIfInBounds i) (c+1) _ rv ((Heap.get?_update_self _ ho rfl).trans (by rw[Bs])) ?_ λx hx=>Heap.get?_update_other _ _ (fm hx)
  rw[q4]
  have:(es.eraseIdxIfInBounds i).toList=es.toList.eraseIdx i:=by
   rw[Ai,dif_pos bj,Nu]
  rw[this]
  exact bv.erase r i
end
section
variable{n:Nat}{af:Env}{m:au}{X P:PM}{σ:ah}{s:Shared}{A:bo}{Q:AV->ah->Prop}
theorem nq{T:dK}{id:dK}(pa:PlainAttrs T)(slot:Slot T name id)(Ys:typeOf (.builtin id)=pure (.type "method_descriptor"))
  (hv: ∀{X P:PM} {s:Shared} {v:Value},bD X P σ s->RepV G.w.params P a v->s.TypeIs v T/\ ∀x,v= .ref x-> ∃o,s.heap.get? x=some o/\o.dict=none):kB a name σ (.builtin id):=
 λX P s v A pl Q I r q=>getMethod_builtin (hv I r).1 pa slot Ys (hv I r).2 q
theorem fH.type{l:ae (AV×AV)}(L:fH σ a l){X P:PM}{s:Shared}(I:bD X P σ s)(r:RepV G.w.params P a v):s.TypeIs v "dict"/\ ∀x,v= .ref x-> ∃o,s.heap.get? x=some o/\o.dict=none:=by
 obtain⟨d,es,c,rfl,h,-⟩:=L.is I r
 exact⟨⟨_,h,rfl⟩,λx e=>by cases e;exact⟨_,h,rfl⟩⟩
theorem eT.type(L:eT σ a l){X P:PM}{s:Shared}(I:bD X P σ s)(r:RepV G.w.params P a v):s.TypeIs v "list"/\ ∀x,v= .ref x-> ∃o,s.heap.get? x=some o/\o.dict=none:=by
 obtain⟨d,es,c,rfl,h,-⟩:=L.is I r
 exact⟨⟨_,h,rfl⟩,λx e=>by cases e;exact⟨_,h,rfl⟩⟩
theorem oY{l:ae (AV×AV)}(L:fH σ a l):kB a "get" σ (.builtin "dict.get"):=nq PySem.F.plainAttrs_dict PySem.F.slot_dict_get PySem.F.type_dict_get L.type
theorem F7{l:ae (AV×AV)}(L:fH σ a l):kB a "setdefault" σ (.builtin "dict.setdefault"):=nq PySem.F.plainAttrs_dict PySem.F.slot_dict_setdefault PySem.F.type_dict_setdefault L.type
theorem Uy{l:ae (AV×AV)}(L:fH σ a l):kB a "pop" σ (.builtin "dict.pop"):=nq PySem.F.plainAttrs_dict PySem.F.slot_dict_pop PySem.F.type_dict_pop L.type
theorem S9{l:ae (AV×AV)}(L:fH σ a l):kB a "items" σ (.builtin "dict.items"):=nq PySem.F.plainAttrs_dict PySem.F.slot_dict_items PySem.F.type_dict_items L.type
theorem ln(L:eT σ a l):kB a "append" σ (.builtin "list.append"):=nq PySem.F.plainAttrs_list PySem.F.slot_list_append PySem.F.type_list_append L.type
theorem xZ(L:eT σ a l):kB a "extend" σ (.builtin "list.extend"):=nq PySem.F.plainAttrs_list PySem.F.slot_list_extend PySem.F.type_list_extend L.type
theorem IP(L:eT σ a l):kB a "pop" σ (.builtin "list.pop"):=nq PySem.F.plainAttrs_list PySem.F.slot_list_pop PySem.F.type_list_pop L.type
theorem P_:kB (.str x) "isspace" σ (.builtin "str.isspace"):=nq PySem.F.plainAttrs_str PySem.F.slot_str_isspace PySem.F.type_str_isspace λI r=>by cases r;exact⟨rfl,λx e=>nomatch e⟩
theorem S_:kB (.str x) "index" σ (.builtin "str.index"):=nq PySem.F.plainAttrs_str PySem.F.slot_str_index PySem.F.type_str_index λI r=>by cases r;exact⟨rfl,λx e=>nomatch e⟩
theorem cT.tD{A:bo}(R:cT n A):A.in1.units+20<cLine:=by have:=R.units;show A.units+1+20<_;unfold cLine;lia
theorem cT.WG{A:bo}(R:cT n A):A.units+20<cLine:=by have:=R.units;unfold cLine;lia
set_option tactic.hygienic true in
theorem VM{k:AV}{l:ae (AV×AV)}(L:fH σ a l)(K:ja l k)(h:Q ((f6 l k).getD b) σ):cK n (.builtin "dict.get") [a,k,b] σ Q:=by
 intro A X P s vs hA I r
 cases r using RepL.consE with |cons ra r=>
 cases r using RepL.consE with |cons rk r=>
 cases r using RepL.consE with |cons rb r=>
 cases r
 rename_i va vk vb
 obtain⟨d,es,c,rfl,ho,rd,hd⟩:=L.is I ra
 refine dY PySem.F.slot_dict_get ⟨_,ho,rfl⟩ PySem.F.entry_dict_get ?_ (PySem.F.args_dict_get_3 _ _ _)
 show ai _ _ (yb d _>>=_) _ _ s
 refine wb (CG I.p ho rd K rk hA.tD λov t pM=>?_)
 generalize f6 l k=x at pM h
 cases pM with
 |some tE=>exact aq ⟨_,rfl,P,σ,_,PM.le.refl P,I.tok t,tE,h⟩
 |none=>
  show ai _ _ (cF.Dict.missed d _>>=_) _ _ _
  exact wb (wpAny_missed_other hd (aq ⟨_,rfl,P,σ,b,PM.le.refl P,I.tok t,rb,h⟩))
theorem H0{k:AV}{l:ae (AV×AV)}{d:Addr}{es:ay DictEntry}{c:Nat}{key:Value}{Q:Bool->Shared->Prop}(hp:P.le s.heap.get?)(ho:s.heap.get? d=some (bZ es c))(r:bv G.w.params P l es.toList)(K:ja l k)
  (rk:RepV G.w.params P k key) (hd:(d==um)=false) (hA:cT n A) (h: ∀t,Q (f6 l k).isSome {s with toks:=t}):ai GM A (contains (.ref d) key) Q E s:=by
 unfold contains
 have hT:s.TypeIs (.ref d) "dict":=⟨_,ho,rfl⟩
 refine cq (wb (lU hT PySem.F.slot_dict_contains.lookup ?_))
 show ai _ _ (if(some (Value.builtin "dict.__contains__")==some Value.none)=true then _ else _) _ E s
 refine wp_if_no (by rw[Oe];exact Bool.false_ne_true) ?_
 refine wb (wpAny_callSpecialUnlessNone?_slot (name:=Str.ofString "__contains__") hT PySem.F.slot_dict_contains
  (dY PySem.F.slot_dict_contains hT PySem.F.entry_dict_contains ?_ (PySem.F.args_dict_contains_2 _ _)))
 show ai _ _ (yb d key>>=_) _ _ s
 refine wb (CG hp ho r K rk hA.tD λov t pM=>?_)
 generalize f6 l k=x at pM h
 cases pM with
 |some tE=>exact aq ⟨_,rfl,rR (h t)⟩
 |none=>
  show ai _ _ (cF.Dict.pendingKey? d key>>=_) _ _ _
  exact wb (wpAny_pendingKey_other hd (aq ⟨_,rfl,rR (h t)⟩))
theorem Qa{k:AV}{l:ae (AV×AV)}(L:fH σ a l)(K:ja l k)(h:Q (.raw (.bool (f6 l k).isSome)) σ):cD n σ (eU .In k a) Q:=by
 rintro af m A X P s c hA T ⟨u,v,ru,rv,rfl⟩
 obtain⟨d,es,c,rfl,ho,rd,hd⟩:=L.is T.inv rv
 show ai _ _ (do return Value.bool (<- contains (.ref d) u)) _ _ s
 exact wb (H0 T.inv.p ho rd K ru hd hA λt=>aq (aC.now (T.tok t) (.raw _) h))
theorem O7{k:AV}{l:ae (AV×AV)}(L:fH σ a l)(K:ja l k)(h:Q (.raw (.bool (!(f6 l k).isSome))) σ):cD n σ (eU .NotIn k a) Q:=by
 rintro af m A X P s c hA T ⟨u,v,ru,rv,rfl⟩
 obtain⟨d,es,c,rfl,ho,rd,hd⟩:=L.is T.inv rv
 show ai _ _ (do return Value.bool (!(<- contains (.ref d) u))) _ _ s
 exact wb (H0 T.inv.p ho rd K ru hd hA λt=>aq (aC.now (T.tok t) (.raw _) h))
theorem Pf{k:AV}{l:ae (AV×AV)}(L:fH σ a l)(hs: ∀o i,subscripted slice false o i=operate [o,i] (jk o i))(K:ja l k)(hb:f6 l k=some b)(h:Q b σ):cD n σ (mD value slice a k) Q:=by
 rintro af m A X P s c hA T ⟨u,v,ru,rv,rfl⟩
 obtain⟨d,es,c,rfl,ho,rd,hd⟩:=L.is T.inv ru
 have hT:s.TypeIs (.ref d) "dict":=⟨_,ho,rfl⟩
 refine xU hT PySem.F.slot_dict_getitem.lookup (hs _ _) ?_
 unfold jk
 refine cq (wb (Az hT (by decide) ?_))
 refine wb (iM (name:=Str.ofString "__getitem__") hT PySem.F.slot_dict_getitem
  (dY PySem.F.slot_dict_getitem hT PySem.F.entry_dict_getitem ?_ (PySem.F.args_dict_getitem_2 _ _)))
 show ai _ _ (yb d _>>=_) _ _ s
 refine wb (CG T.inv.p ho rd K rv hA.tD λov t pM=>?_)
 rw[hb] at pM
 cases pM with
 |some tE=>exact aq ⟨_,rfl,aq (aC.now (T.tok t) tE h)⟩
inductive VN(b:AV)(Q:ah->Prop)(a k:AV)(aO:ah):Prop
 |mk (d:Addr) (l:ae (AV×AV)) (e:a= .raw (.ref d)) (h:aO d=some (.dict l)) (ok:ja l k) (z:l.length<=sizeLine) (q:Q (aA aO d (.dict (iB l k b))))
theorem Gm{o i:Expr}{pos:Pos}{Q:au->ah->Prop}(hi: ∀a b c d:Value,(match i with | .Slice _ _ none _=>[a,b,c] |_=>[b,c,a]:ae Value)=[b,c,a])
  (h:aQ n af o m σ λa ap=>aQ n af i m ap (VN b (Q m) a)):fw n af (.Subscript o i pos) b m σ Q:=by
 intro A X P s v hA T r
 rw[ND]
 refine h.o9 hA T λaR ap a u aH aJ aL bF aD=>?_
 refine aD.o9 hA aL λbA aO k key aV bm ba b_ aI=>?_
 obtain⟨d,l,rfl,hd,K,hz,q⟩:=aI
 cases bF
 have L:fH aO (.raw (.ref d)) l:= .ref hd
 obtain⟨d',es,c,e,ho,rd,hs⟩:=L.is ba.inv (.raw _)
 cases e
 have hT:aV.TypeIs (.ref d) "dict":=⟨_,ho,rfl⟩
 refine wb (fi (wb (cq ?_)))
 unfold setItem
 refine cq (wb (Az hT (by decide) ?_))
 refine wb (iM (name:=Str.ofString "__setitem__") hT PySem.F.slot_dict_setitem
  (dY PySem.F.slot_dict_setitem hT PySem.F.entry_dict_setitem ?_ (PySem.F.args_dict_setitem_3 _ _ _)))
 show ai _ _ (cF.Dict.notOrdered "__setitem__" ⟨[.ref d,key,v],[]⟩>>=_) _ _ _
 refine wb (t4 hT ?_)
 show ai _ _ (ya d key v>>=_) _ _ _
 refine wb (CH ba.inv.p ho rd K b_ hA.tD ((r.mono aJ).mono bm) hz λh' be c' t e1 e2 e3=>aq ⟨.none,rfl,aq (AI ?_)⟩)
 exact⟨m,bA,_,aJ.trans bm,ba.update hd e3 e1 (.dict e2),q⟩
theorem O8{k:AV}{d:Addr}{l:ae (AV×AV)}(hd:σ d=some (.dict l))(K:ja l k)(hz:l.length<=sizeLine)
  (h1: ∀b',f6 l k=some b'->Q b' σ) (h2:f6 l k=none->Q b (aA σ d (.dict (iB l k b)))):cK n (.builtin "dict.setdefault") [.raw (.ref d),k,b] σ Q:=by
 intro A X P s vs hA I r
 cases r using RepL.consE with |cons ra r=>
 cases r using RepL.consE with |cons rk r=>
 cases r using RepL.consE with |cons rb r=>
 cases r;cases ra
 have L:fH σ (.raw (.ref d)) l:= .ref hd
 obtain⟨d',es,c,e,ho,rd,hs⟩:=L.is I (.raw _)
 cases e
 have hT:s.TypeIs (.ref d) "dict":=⟨_,ho,rfl⟩
 refine dY PySem.F.slot_dict_setdefault hT PySem.F.entry_dict_setdefault ?_ (PySem.F.args_dict_setdefault_3 _ _ _)
 unfold cF.«dict.setdefault»
 refine wb ?_
 unfold MX
 refine wb (t4 hT ?_)
 show ai _ _ (pure (d,_,some _)) _ _ s
 refine aq ?_
 show ai _ _ (if(d==um)=true then _ else(FK d _ _>>=_)) _ _ s
 refine wp_if_no (by rw[hs];exact Bool.false_ne_true) ?_
 refine wb (Uw I.p ho rd K rk hA.tD rb hz (λb' v' t hb tE=>aq ⟨_,rfl,P,σ,_,PM.le.refl P,I.tok t,tE,h1 b' hb⟩) λhn h' be c' t e1 e2 e3=>aq ⟨_,rfl,P,_,_,PM.le.refl P,I.update hd e3 e1 (.dict e2),rb,h2 hn⟩)
theorem O9{k:AV}{key:Value}(ht:dp k=0)(r:RepV p P k key):(keyPart key).isSome=true:=by
 obtain⟨i,rfl⟩:=BL ht
 cases r;rfl
set_option tactic.hygienic true in
theorem Uz{k:AV}{d:Addr}{l:ae (AV×AV)}(hd:σ d=some (.dict l))(K:ja l k)(ht:dp k=0)(hz:l.length<=sizeLine)(hb:f6 l k=some b)(h:Q b (aA σ d (.dict (pj l k)))):cK n (.builtin "dict.pop") [.raw (.ref d),k] σ Q:=by
 intro A X P s vs hA I r
 cases r using RepL.consE with |cons ra r=>
 cases r using RepL.consE with |cons rk r=>
 cases r;cases ra
 rename_i key
 have L:fH σ (.raw (.ref d)) l:= .ref hd
 obtain⟨d',es,c,e,ho,rd,hs⟩:=L.is I (.raw _)
 cases e
 have hT:s.TypeIs (.ref d) "dict":=⟨_,ho,rfl⟩
 refine dY PySem.F.slot_dict_pop hT PySem.F.entry_dict_pop ?_ (PySem.F.args_dict_pop_2 _ _)
 unfold cF.«dict.pop»
 refine wb ?_
 unfold MX
 refine wb (t4 hT ?_)
 show ai _ _ (pure (d,_,none)) _ _ s
 refine aq ?_
 dsimp only
 refine wp_if_yes (O9 ht rk) ?_
 refine wb (aq ?_)
 show ai _ _ (Fl d key>>=_) _ _ s
 refine wb (Ux I.p ho rd K rk hA.tD hb hz λen h' be c' t rv e1 e2 e3=>?_)
 show ai _ _ (letGo [en.key] [en.val]>>=_) _ _ _
 exact wb (ug (aq ⟨_,rfl,P,_,_,PM.le.refl P,I.update hd e3 e1 (.dict e2),rv,h⟩))
end
section
variable{n:Nat}{af:Env}{m:au}{X P:PM}{σ:ah}{s:Shared}{A:bo}{Q:AV->ah->Prop}
theorem Q7{f:ay Value->ay Value}: ∃k',Obj.mapSeq f (cw items k)=cw (f items) k':=⟨_,rfl⟩
theorem nB{d:Addr}(f:ay Value->ay Value)(hd:h.get? d=some (cw items k)): ∃k',(h.update d (Obj.mapSeq f)).get? d=some (cw (f items) k'):=by
 obtain⟨k',e⟩:=Q7 (f:=f) (items:=items) (k:=k)
 exact⟨k',(Heap.get?_update_self _ hd rfl).trans (by rw[e])⟩
theorem uH{d:Addr}(hd:σ d=some (.list l))(hz:l.length<sizeLine)(h:Q (.raw .none) (aA σ d (.list (l++[a])))):cK n (.builtin "list.append") [.raw (.ref d),a] σ Q:=by
 intro A X P s vs hA I r
 cases r using RepL.consE with |cons ra r=>
 cases r using RepL.consE with |cons rb r=>
 cases r;cases ra
 obtain⟨d',items,k,e,ho,rl⟩:=(eT.ref hd).is I (.raw _)
 cases e
 have e1:items.size=l.length:=by rw[<- ck,<- rl.length]
 refine dY Oc ⟨_,ho,rfl⟩ N6 ?_ (Od _ _)
 show ai _ _ (xK d (·.push _)>>=λω=>ret .none) _ _ s
 refine wb (xu ho rfl ?_ (by lia))
 obtain⟨k',e2⟩:=nB (·.push ‹Value›) ho
 exact aq ⟨.none,rfl,P,_,_,PM.le.refl P,I.update (t:=s.toks) hd (λb hb=>Heap.get?_update_other _ _ (fm hb)) e2 (.list (by simpa using rl.append (.cons rb .nil))),.raw _,h⟩
theorem x0{d:Addr}(hd:σ d=some (.list l))(L:eT σ b l')(hz:l.length+l'.length<=sizeLine)(h:Q (.raw .none) (aA σ d (.list (l++l')))):cK n (.builtin "list.extend") [.raw (.ref d),b] σ Q:=by
 intro A X P s vs hA I r
 cases r using RepL.consE with |cons ra r=>
 cases r using RepL.consE with |cons rb r=>
 cases r;cases ra
 obtain⟨d',items,k,e,ho,rl⟩:=(eT.ref hd).is I (.raw _)
 cases e
 obtain⟨d',bW,k',rfl,gG,tC⟩:=L.is I rb
 have e1:items.size=l.length:=by rw[<- ck,<- rl.length]
 have e2:bW.size=l'.length:=by rw[<- ck,<- tC.length]
 refine uk PySem.F.slot_list_extend ⟨_,ho,rfl⟩ PySem.F.entry_list_extend (PySem.F.args_list_extend_2 _ _) (PySem.AutoSeq1.list_extend_list_list_0 d items k d' bW k' ?_ (by lia) (by lia)) ⟨ho,gG,?_⟩
 .have:xj (items.size+bW.size)=false:=by
   unfold xj;exact cu (by lia)
  rw[this,Bool.and_false];exact Bool.false_ne_true
 .obtain⟨Yt,e3⟩:=nB (λx=>x++bW) ho
  exact⟨P,_,_,PM.le.refl P,I.update (t:=s.toks) hd (λb hb=>Heap.get?_update_other _ _ (fm hb)) e3 (.list (by simpa using rl.append tC)),.raw _,h⟩
theorem IQ{d:Addr}(hd:σ d=some (.list (l++[a])))(hz:l.length<sizeLine)(h:Q a (aA σ d (.list l))):cK n (.builtin "list.pop") [.raw (.ref d)] σ Q:=by
 intro A X P s vs hA I r
 cases r using RepL.consE with |cons ra r=>
 cases r;cases ra
 obtain⟨d',items,k,e,ho,rl⟩:=(eT.ref hd).is I (.raw _)
 cases e
 have e1:items.size=l.length+1:=by rw[<- ck,<- rl.length];simp
 obtain⟨y,hy,ry⟩:=rl.get (i:=l.length) (x:=a) (by simp)
 have lO:items[items.size - 1]? =some y:=by rw[<- dR,e1];exact hy
 refine uk PySem.F.slot_list_pop ⟨_,ho,rfl⟩ PySem.F.entry_list_pop (PySem.F.args_list_pop_1 _) (PySem.MeetsSeq.list_pop_last d items k y lO (by lia)) ⟨ho,?_⟩
 obtain⟨Yt,e3⟩:=nB (λxs=>xs.eraseIdxIfInBounds (items.size - 1)) ho
 refine⟨P,_,_,PM.le.refl P,I.update (t:=s.toks) hd (λb hb=>Heap.get?_update_other _ _ (fm hb)) e3 (.list ?_),ry,h⟩
 have bj:items.size - 1<items.size:=Nat.sub_lt (e1▸Nat.succ_pos _) Nat.one_pos
 have e4:(items.eraseIdxIfInBounds (items.size - 1)).toList=items.toList.take l.length:=by
  rw[Ai,dif_pos bj,Nu]
  have:items.size - 1=items.toList.length - 1:=rfl
  rw[this,ae.eraseIdx_length_sub_one,ae.dropLast_eq_take]
  congr 1;simp[e1]
 rw[e4]
 simpa using rl.take l.length
theorem oJ(L:eT σ b l)(hz:l.length<=sizeLine)(h:Q (.tup l) σ):cK n (.type "tuple") [b] σ Q:=by
 intro A X P s vs hA I r
 cases r using RepL.consE with |cons ra r=>
 cases r
 obtain⟨d,items,k,rfl,ho,rl⟩:=L.is I ra
 have e1:items.size=l.length:=by rw[<- ck,<- rl.length]
 refine call_tuple_list ⟨_,ho,rfl,_,rfl⟩ (λh' hk=>?_) (by lia)
 have I':=I.grow (t:=s.toks) hk
 refine I'.frozen (t:=s.toks) (o:=dE items 0) (h':=h'.push (dE items 0)) rfl (λa o e=>Heap.get?_push_of_some _ e) (Heap.get?_push_size _ rfl) λP' hP e ω wj=>?_
 exact⟨P',σ,_,hP,wj,.tup e (rl.mono hP),h⟩
theorem AP(h:Q (.tup l) σ):cK n (.type "tuple") [.tup l] σ Q:=by
 intro A X P s vs hA I r
 cases r using RepL.consE with |cons ra r=>
 cases r
 obtain⟨d,items,k,rfl,ho,rl⟩:=lx I ra
 exact call_tuple_same ⟨_,ho,rfl,_,rfl⟩ ⟨P,σ,_,PM.le.refl P,I,ra,h⟩
inductive CJ(σ:ah):AV->ae AV->Prop
 |list {a:AV} {l:ae AV} (h:eT σ a l):CJ σ a l
 |tup (l:ae AV):CJ σ (.tup l) l
theorem IR(L:CJ σ b l)(hz:l.length<=sizeLine)(h:Q (.lst l) σ):cK n (.type "list") [b] σ Q:=by
 intro A X P s vs hA I r
 cases r using RepL.consE with |cons ra r=>
 cases r
 have key: ∀(it:Addr) (T:dK) (items:ay Value) (k:Nat),T="list"\/T="tuple"->s.heap.get? it=some ⟨.type T,none,.seq items k,#[]⟩->RepL G.w.params P l items.toList->
   ai GM A (call (.type "list") [.ref it]) (aC (bD X) P (RepV G.w.params) Q) (λω ω=>False) s:=λit T items k hT ho rl=>by
  have e1:items.size=l.length:=by rw[<- ck,<- rl.length]
  refine call_list_seq it hT ho rfl rfl (λh' c' hk hn=>?_) (by lia)
  refine I.frozen (t:=s.toks) (o:=cw items c') rfl hk hn λP' hP e ω wj=>?_
  exact⟨P',σ,_,hP,wj,.lst e (rl.mono hP),h⟩
 cases L with
 |list L=>
  obtain⟨d,items,k,rfl,ho,rl⟩:=L.is I ra
  exact key d "list" items k (.inl rfl) ho rl
 |tup=>
  obtain⟨d,items,k,rfl,ho,rl⟩:=lx I ra
  exact key d "tuple" items k (.inr rfl) ho rl
theorem VO{i:aj}(h:Q (.int i) σ):cK n (.type "int") [.int i] σ Q:=by
 intro A X P s vs hA I r
 cases r using RepL.consE with |cons ra r=>
 cases r;cases ra
 exact call_int_int ⟨P,σ,_,PM.le.refl P,I,.int _ _,h⟩
theorem VP{i:aj}(h:Q (.int (if i<0 then -i else i)) σ):cK n (.builtin "abs") [.int i] σ Q:=by
 intro A X P s vs hA I r
 cases r using RepL.consE with |cons ra r=>
 cases r;cases ra
 exact call_abs_int λu tk=>⟨P,σ,_,PM.le.refl P,I.tok tk,.int _ _,h⟩
end
section
variable{n:Nat}{af:Env}{m:au}{X P:PM}{σ:ah}{s:Shared}{A:bo}{Q:AV->ah->Prop}
inductive vm:aB Expr->aB aj->Prop
 |none:vm none none
 |int (i:aj) (k:Nat) (p:Pos):vm (some (.Constant (.int i) k p)) (some i)
inductive vo:Value->aB aj->Prop
 |none:vo .none none
 |int (i:aj) (t:el):vo (.int i t) (some i)
theorem G'{e:aB Expr}{i:aB aj}(h:vm e i){Q:Value->Shared->Prop}(c: ∀v t,vo v i->Q v {s with toks:=t}):ai GM A (evalPart e af) Q E s:=by
 cases h with
 |none=>exact aq (c .none s.toks .none)
 |int i k p=>exact NL (k:=k) (pos:=p) (c _ _ (.int _ _))
noncomputable def CK(u v:Value):Obj:={cls:= .type "slice",data:= .fields #[u,v,.none]}
def vT(n:Nat)(σ:ah)(lo hi:aB aj)(a:AV)(Q:AV->ah->Prop):Prop:=
 ∃T id,uo (.type T) "__getitem__"=pure (some (.builtin id))/\ ∀af m A X P s v sl mQ mR,cT n A->At af m X P σ s->RepV G.w.params P a v->vo mQ lo->vo mR hi->s.heap.get? sl=some (CK mQ mR)->
  s.TypeIs v T/\ai GM A (jk v (.ref sl)) (aC (At af m X) P (RepV G.w.params) Q) (λω ω=>False) s
theorem hG{lower upper:aB Expr}{lo hi:aB aj}{p pos:Pos}(kQ:vm lower lo)(oa:vm upper hi)(h:aQ n af value m σ λa ap=>vT n ap lo hi a Q):aQ n af (.Subscript value (.Slice lower upper none p) pos) m σ Q:=by
 intro A X P s hA T
 rw[eval_Subscript]
 refine h.run hA T λaR ap a o aH aJ aL bF aD=>?_
 obtain⟨TT,id,hl,aD⟩:=aD
 refine wb (cq (wpAny_Slice (G' kQ λmQ t WH=>G' oa λmR t' WJ=>aq ?_)))
 have ba:At af m X aR ap {aH with heap:=aH.heap.push (CK mQ mR),toks:=t'}:=aL.grow λa o e=>Heap.get?_push_of_some _ e
 obtain⟨hT,hg⟩:=aD af m A X aR _ o aH.heap.objs.size mQ mR hA ba bF WH WJ (Heap.get?_push_size _ rfl)
 refine wb (fi (wb ?_))
 rw[Nq hT.not_modules]
 refine wb (lU hT hl ?_)
 refine aq (wb ?_)
 exact wpAny_operating (bT hg (λr eJ bK=>wb (Ca (aq (aC.up aJ bK)))) λω ω x=>x)
theorem jD(h1:1<=l.length)(hz:l.length<=sizeLine)(h:Q (.tup (l.drop 1)) σ):vT n σ (some 1) none (.tup l) Q:=by
 refine⟨"tuple",_,PySem.F.slot_tuple_getitem.lookup,λaf m A X P s v sl mQ mR hA T r q9 q_ mS=>?_⟩
 obtain⟨a,items,k,rfl,ho,rl⟩:=lx T.inv r
 cases q9;cases q_
 have e1:items.size=l.length:=by rw[<- ck,<- rl.length]
 refine⟨⟨_,ho,rfl⟩,getItem_tuple_from (a:=1) ⟨_,ho,rfl,_,rfl⟩ ⟨_,mS,rfl,rfl⟩ (Nat.le_refl _) (by lia) ?_ (by lia)⟩
 refine T.frozen (t:=s.toks) (o:=dE (items.toList.drop 1).toArray 0) rfl (λa o e=>Heap.get?_push_of_some _ e) (Heap.get?_push_size _ rfl) λP' hP e T'=>?_
 exact⟨P',σ,_,hP,T',.tup e ((rl.drop 1).mono hP),h⟩
theorem No{sl:Addr}{u:el}{Q:aj×aj×Nat->Shared->Prop}(mS:s.heap.get? sl=some (CK .none (.int 1 u)))(hj:1<=j)(h:Q (0,1,1) s):ai GM A (MY (.ref sl) (pure (j:aj))) Q E s:=by
 have DT:=mS
 unfold MY cF.Slice.sliceFields
 refine wb (wb (eE DT rfl (x:= .none) rfl (wb (eE DT rfl (x:= .int 1 u) rfl (wb (eE DT rfl (x:= .none) rfl (aq ?_)))))))
 refine wb (OL ?_)
 show ai _ _ (if((1:aj)==0)=true then _ else _) _ _ s
 refine wp_if_no (by decide) ?_
 refine wb (OL (wb (slicePart_int (wb (aq ?_)))))
 have e1:E9 none (some 1) 1 (j:aj)=(0,1):=by
  unfold E9
  have:min (1:aj) j=1:=Ox (lW.mpr hj)
  simp[this]
 show ai _ _ (match E9 none (some 1) 1 (j:aj) with |(lo,hi)=>pure (lo,(1:aj),cF.Slice.slicePlaces lo hi 1)) _ _ s
 rw[e1]
 exact aq h
theorem Px{x:AV}(hz:l.length<sizeLine)(h:Q (.tup [x]) σ):vT n σ none (some 1) (.tup (x::l)) Q:=by
 refine⟨"tuple",_,PySem.F.slot_tuple_getitem.lookup,λaf m A X P s v sl mQ mR hA T r q9 q_ mS=>?_⟩
 obtain⟨a,items,k,rfl,ho,rl⟩:=lx T.inv r
 cases q9;cases q_
 have e1:items.size=l.length+1:=ck.symm.trans rl.length.symm
 have hT:s.TypeIs (.ref a) "tuple":=⟨_,ho,rfl⟩
 have Yu:s.TypeIs (.ref sl) "slice":=⟨_,mS,rfl⟩
 refine⟨hT,?_⟩
 unfold jk
 refine cq (wb (Az hT (by decide) ?_))
 refine wb (iM (name:=Str.ofString "__getitem__") hT PySem.F.slot_tuple_getitem
  (dY PySem.F.slot_tuple_getitem hT PySem.F.entry_tuple_getitem ?_ (PySem.F.args_tuple_getitem_2 _ _)))
 show ai _ _ (MW (.ref a)>>=_) _ _ s
 refine wb (NU ho rfl ?_)
 refine wb (oy Yu ?_)
 refine wp_if_yes (by decide) ?_
 refine wb (No (j:=items.size) mS (e1▸Nat.succ_le_succ (Nat.zero_le _)) ?_)
 show ai _ _ (if((0:aj)==0&&(1:aj)==1&&(1:Nat)==items.size)=true then _ else _) _ _ s
 by_cases hl:l=[]
 .subst hl
  refine wp_if_yes (by rw[e1];rfl) ?_
  refine wb (m:=cF.Tuple.tupleIsExact (.ref a)) (wb (oy hT (aq ?_)))
  have fin:aC (At af m X) P (RepV G.w.params) Q (.ref a) s:=aC.now T r h
  refine wp_if_yes (by decide) ?_
  exact wb (fj (aq ⟨_,rfl,aq fin⟩))
 .refine wp_if_no (λq=>hl (ae.eq_nil_of_length_eq_zero (Nat.succ.inj (e1.symm.trans (lZ (Bool.and_eq_true_iff.mp q).2).symm)))) ?_
  obtain⟨y,hy,ry⟩:=rl.get (i:=0) (x:=x) rfl
  have lO:items[0]? =some y:=by rw[<- dR];exact hy
  have e2:(FN (λ(k:Nat)=>items[((0:aj)+(k:aj)*1).toNat]?) (c7 1)).toArray= #[y]:=by
   rw[show c7 1=[0] from rfl,rP,show items[((0:aj)+((0:Nat):aj)*1).toNat]? =some y from lO];rfl
  rw[e2]
  refine wb (m:=cF.Tuple.tupleExact _) (iO ?_ (Nat.le_of_ble_eq_true rfl))
  refine T.frozen (t:=s.toks) (o:=dE #[y] 0) rfl (λa o e=>Heap.get?_push_of_some _ e) (Heap.get?_push_size _ rfl) λP' hP e T'=>?_
  have fin:aC (At af m X) P (RepV G.w.params) Q (.ref s.heap.objs.size) {s with heap:=s.heap.push {cls:=Value.type "tuple",data:=Data.seq #[y]} }:=⟨P',σ,_,hP,T',.tup e (.cons (ry.mono hP) .nil),h⟩
  exact aq ⟨_,rfl,aq fin⟩
theorem On(items:ay Value)(j:Nat):(Gz items none (some (j:aj)) none).toList=items.toList.take j:=by
 unfold Gz sliceBounds
 simp only[aB.getD_none,show(1:aj)>0 by decide,if_true,show ¬((j:aj)<0) by lia,if_false]
 have e:(max (0:aj) (min (j:aj) (items.size:aj)))=((min j items.size:Nat):aj):=by
  rcases Nat.le_total j items.size with q |q
  .rw[Nat.min_eq_left q,Ox (lW.mpr q)];exact N9 (gf _)
  .rw[Nat.min_eq_right q,aj.min_eq_right (lW.mpr q)];exact N9 (gf _)
 rw[e]
 have e3:sliceRange 0 ((min j items.size:Nat):aj) 1=c7 (min j items.size):=by
  unfold sliceRange
  simp only[show(1:aj)>0 by decide,if_true]
  have e2:(if(0:aj)<((min j items.size:Nat):aj) then(((min j items.size:Nat):aj) - 0+1 - 1)/1 else 0)=((min j items.size:Nat):aj):=by split<;>(try simp only[aj.ediv_one])<;>lia
  rw[e2,kp]
  have:(λ(k:Nat)=>((0:aj)+1*(k:aj)).toNat)=id:=by funext k;simp
  rw[this,p_]
 rw[e3]
 have:=pick_run items 0 (min j items.size)
 simp only[Nat.zero_add,ae.drop_zero] at this
 rw[NK] at this
 have this:FN (λk=>items[k]?) (c7 (min j items.size))=ae.take (min j items.size) items.toList:=this
 rw[this]
 by_cases h:j<=items.size
 .rw[Nat.min_eq_left h]
 .have h':=Nat.le_of_not_le h
  rw[Nat.min_eq_right h',rO (Nat.le_of_eq ck),rO (ck.symm▸h')]
theorem Ta(L:eT σ b l)(hz:l.length<=sizeLine)(h:Q (.lst (l.take j)) σ):vT n σ none (some (j:aj)) b Q:=by
 refine⟨"list",_,NZ.lookup,λaf m A X P s v sl mQ mR hA T r q9 q_ mS=>?_⟩
 obtain⟨a,items,k,rfl,ho,rl⟩:=L.is T.inv r
 cases q9;cases q_
 have e1:items.size=l.length:=by rw[<- ck,<- rl.length]
 refine⟨⟨_,ho,rfl⟩,wpAny_getItem_list_slice ⟨_,ho,rfl,_,rfl⟩ ⟨_,mS,rfl,rfl⟩ .none (.int _ _) .none (λe=>nomatch e) ?_ (by lia)⟩
 refine T.frozen (t:=s.toks) (o:=cw (Gz items none (some (j:aj)) none) 0) rfl (λa o e=>Heap.get?_push_of_some _ e) (Heap.get?_push_size _ rfl) λP' hP e T'=>?_
 exact⟨P',σ,_,hP,T',.lst e (by rw[On];exact(rl.take j).mono hP),h⟩
theorem u5{lo hi:aB aj}(hz:x.length<=sizeLine)(h:Q (.str (Txt.slice x lo hi)) σ):vT n σ lo hi (.str x) Q:=by
 refine⟨"str",_,PySem.F.slot_str_getitem.lookup,λaf m A X P s v sl mQ mR hA T r q9 q_ mS=>?_⟩
 cases r with |str _ t=>
 refine⟨typeIs_str _ x t,?_⟩
 have key: ∀(l u:aB (aj×el)),mQ=partValue l->mR=partValue u->lo=l.map (·.1)->hi=u.map (·.1)->ai GM A (jk (.str x t) (.ref sl)) (aC (At af m X) P (RepV G.w.params) Q) (λω ω=>False) s:=λl u e1 e2 e3 e4=>by
  refine wpAny_getItem_str_slice (l:=l) (u:=u) (st:=none) ⟨_,mS,rfl,by rw[e1,e2];rfl⟩ rfl ?_
  have hle:=Nat.le_trans (Txt.slice_le x lo hi) hz
  subst e3;subst e4
  exact post_val_or_str ⟨hle,λt' k=>aC.now (T.tok k) (.str _ _) h⟩
 cases q9<;>cases q_
 .exact key none none rfl rfl rfl rfl
 .exact key none (some (_,_)) rfl rfl rfl rfl
 .exact key (some (_,_)) none rfl rfl rfl rfl
 .exact key (some (_,_)) (some (_,_)) rfl rfl rfl rfl
end
section
variable{n:Nat}{af:Env}{m:au}{X P:PM}{σ:ah}{s:Shared}{A:bo}
inductive cA(p:bg)(P:PM)(h:Heap)(it:Addr):ae AV->Prop
 |list {l:Addr} {i k:Nat} {items:ay Value} {all:ae AV} (hi:h.IsListIter it l i) (hl:P l=some (cw items k)) (r:RepL p P all items.toList):cA p P h it (all.drop i)
 |tuple {l:Addr} {i k:Nat} {items:ay Value} {all:ae AV} (hi:h.IsTupleIter it l i) (hl:P l=some (dE items k)) (r:RepL p P all items.toList):cA p P h it (all.drop i)
theorem cA.same{P:PM}{it:Addr}(I:cA p P h it l)(hP:P.le P')(e:h'.get? it=h.get? it):cA p P' h' it l:=by
 cases I with
 |list hi hl r=>exact .list (by obtain⟨o,ho,z⟩:=hi;exact⟨o,e.trans ho,z⟩) (hP _ _ hl) (r.mono hP)
 |tuple hi hl r=>exact .tuple (by obtain⟨o,ho,z⟩:=hi;exact⟨o,e.trans ho,z⟩) (hP _ _ hl) (r.mono hP)
theorem cA.d_{P:PM}{it:Addr}(I:cA p P h it l): ∃o,h.get? it=some o:=by
 cases I with
 |list hi _ _=>exact⟨_,hi.choose_spec.1⟩
 |tuple hi _ _=>exact⟨_,hi.choose_spec.1⟩
theorem O_{it l:Addr}{x:Value}{Q:Value->Shared->Prop}(hit:s.heap.IsTupleIter it l i)(hl:s.heap.IsTuple l items)(hx:items[i]? =some x)
  (hQ: ∀h',h'.IsTupleIter it l (i+1)->Heap.SameBut it s.heap h'->Q x {s with heap:=h'}):ai GM A (mY (.ref it)) Q E s:=by
 obtain⟨o,ho,hc,hd⟩:=id hit
 obtain⟨ol,re,_,nl,rf⟩:=hl
 unfold mY
 refine wb (iM (name:=Str.ofString "__next__") hit.typeIs PySem.F.slot_tuple_iterator_next
  (dY PySem.F.slot_tuple_iterator_next hit.typeIs PySem.F.entry_tuple_iterator_next ?_ (PySem.F.args_tuple_iterator_next_1 _)))
 show ai _ _ (field (.ref it) 0>>=_) _ _ s
 refine wb (eE ho hd (x:= .ref l) rfl ?_)
 show ai _ _ (if(Value.ref l==Value.none)=true then _ else _) _ _ s
 refine wp_if_no (show ¬((Value.ref l==Value.none)=true) from Bool.false_ne_true) ?_
 show ai _ _ (field (.ref it) 1>>=_) _ _ s
 refine wb (eE ho hd (x:= .int i 0) rfl ?_)
 show ai _ _ (xM (.ref l)>>=_) _ _ s
 refine cS (jC re rf ?_)
 dsimp only
 rw[show items[((i:Nat):aj).toNat]? =_ from hx]
 refine cS (OH ho hd (Nat.le_of_ble_eq_true rfl) (aq ⟨x,rfl,aq (hQ _ ?_ (Heap.SameBut.update ..))⟩))
 exact⟨_,Heap.get?_update_self _ ho (Obj.isFreed_of_fields (Obj.data_mapFields hd _)),(Obj.cls_mapFields ..).trans hc,by
  rw[Obj.data_mapFields hd];rfl⟩
theorem Pg{it l:Addr}{Q:Value->Shared->Prop}(hh:A.handled=none)(hit:s.heap.IsTupleIter it l i)(hl:s.heap.IsTuple l items)(hx:items[i]? =none)
  (hE: ∀h' e,Heap.ExtBut it s.heap h'->(∃o,h'.get? e=some o/\o.cls= .type "StopIteration")->E (.ref e) {s with heap:=h'}):ai GM A (mY (.ref it)) Q E s:=by
 obtain⟨o,ho,hc,hd⟩:=id hit
 obtain⟨ol,re,_,nl,rf⟩:=hl
 unfold mY
 refine wb (iM (name:=Str.ofString "__next__") hit.typeIs PySem.F.slot_tuple_iterator_next
  (dY PySem.F.slot_tuple_iterator_next hit.typeIs PySem.F.entry_tuple_iterator_next ?_ (PySem.F.args_tuple_iterator_next_1 _)))
 show ai _ _ (field (.ref it) 0>>=_) _ _ s
 refine wb (eE ho hd (x:= .ref l) rfl ?_)
 show ai _ _ (if(Value.ref l==Value.none)=true then _ else _) _ _ s
 refine wp_if_no (show ¬((Value.ref l==Value.none)=true) from Bool.false_ne_true) ?_
 show ai _ _ (field (.ref it) 1>>=_) _ _ s
 refine wb (eE ho hd (x:= .int i 0) rfl ?_)
 show ai _ _ (xM (.ref l)>>=_) _ _ s
 refine cS (jC re rf ?_)
 dsimp only
 rw[show items[((i:Nat):aj).toNat]? =_ from hx]
 refine cS (fj (cS (OH ho hd (Nat.le_of_ble_eq_true rfl) ?_)))
 show ai _ _ (newExc (.type "StopIteration") []>>=_) _ _ _
 refine wb ?_
 simp only[newExc,Bj]
 refine wb (iO ?_ (by size_fits))
 refine wb (m:=AK _ _) (xI (a:=Value.none) (by first |rfl |(simp only[AK];rfl)) ?_)
 refine iO ?_ (by size_fits)
 refine wpAny_raiseNew_none hh ?_
 exact hE _ _ (((Heap.SameBut.update ..).extBut.push _).push _) ⟨_,Heap.get?_push_size _ rfl,rfl⟩
theorem ye{it:Addr}{r:ae AV}{Q:Value->Shared->Prop}(hp:P.le s.heap.get?)(I:cA G.w.params P s.heap it l)(hl:l=a::r)
  (h: ∀v h',RepV G.w.params P a v->cA G.w.params P h' it r->Heap.SameBut it s.heap h'->Q v {s with heap:=h'}):ai GM A (mY (.ref it)) Q E s:=by
 cases I with
 |list hi hq rr=>
  obtain⟨e1,e2⟩:=lc hl
  obtain⟨v,hv,rv⟩:=rr.get e1
  exact wpAny_nextOf_list_item hi ⟨_,hp _ _ hq,rfl,_,rfl⟩ (x:=v) (by rw[<- dR];exact hv) λh' dT hs=>h v h' rv (e2▸ .list dT hq rr) hs
 |tuple hi hq rr=>
  obtain⟨e1,e2⟩:=lc hl
  obtain⟨v,hv,rv⟩:=rr.get e1
  exact O_ hi ⟨_,hp _ _ hq,rfl,_,rfl⟩ (x:=v) (by rw[<- dR];exact hv) λh' dT hs=>h v h' rv (e2▸ .tuple dT hq rr) hs
theorem Cc{it:Addr}{Q:Value->Shared->Prop}(hh:A.handled=none)(hp:P.le s.heap.get?)(I:cA G.w.params P s.heap it l)(hl:l=[])
  (hE: ∀h' e,Heap.ExtBut it s.heap h'->(∃o,h'.get? e=some o/\o.cls= .type "StopIteration")->E (.ref e) {s with heap:=h'}):ai GM A (mY (.ref it)) Q E s:=by
 cases I with
 |list hi hq rr=>exact wpAny_nextOf_list_end hh hi ⟨_,hp _ _ hq,rfl,_,rfl⟩ (by rw[<- dR];exact rr.sr (qi hl)) hE
 |tuple hi hq rr=>exact Pg hh hi ⟨_,hp _ _ hq,rfl,_,rfl⟩ (by rw[<- dR];exact rr.sr (qi hl)) hE
structure yr(z TI TO i1 i2:Addr):Prop where
 TIz:TI≠z
 TOz:TO≠z
 i1z:i1≠z
 i2z:i2≠z
 TITO:TI≠TO
 TIi1:TI≠i1
 TIi2:TI≠i2
 TOi1:TO≠i1
 TOi2:TO≠i2
 i12:i1≠i2
noncomputable def jN:ae AV->ae AV->ae AV
 |a::r,b::t=> .tup [a,b]::jN r t
 |_,_=>[]
inductive WL(p:bg)(P:PM)(h:Heap):Value->ae Addr->ae AV->Prop
 |mk {z TI TO i1 i2:Addr} {a b:Value} {l l':ae AV} (D:yr z TI TO i1 i2) (hz:i5 h z TI TO .none) (jb:gM h TI (.ref i1) (.ref i2)) (jx:gM h TO a b) (I1:cA p P h i1 l) (I2:cA p P h i2 l'):
  WL p P h (.ref z) [z,TI,TO,i1,i2] (jN l l')
theorem Q8{z TI TO i1 i2:Addr}{u:Value}{r t:ae AV}{Q:Value->Shared->Prop}(D:yr z TI TO i1 i2)(hz:i5 s.heap z TI TO .none)(jb:gM s.heap TI (.ref i1) (.ref i2))(jx:gM s.heap TO u v)
  (hp:P.le s.heap.get?) (off: ∀c∈[z,TI,TO,i1,i2],P c=none) (I1:cA G.w.params P s.heap i1 (a::r)) (I2:cA G.w.params P s.heap i2 (b::t))
  (hQ: ∀h' x y,RepV G.w.params P a x->RepV G.w.params P b y->i5 h' z TI TO (cz s.heap.objs.size)->gM h' TI (.ref i1) (.ref i2)->gM h' TO x y->cA G.w.params P h' i1 r->cA G.w.params P h' i2 t->gM h' s.heap.objs.size x y->
   (∀c o,c≠z->c≠TO->c≠i1->c≠i2->s.heap.get? c=some o->h'.get? c=some o)->Q (.ref s.heap.objs.size) {s with heap:=h'}):
  ai GM A (cF.«zip.__next__» ⟨[.ref z],[]⟩) (λfin s'=> ∃v,fin= .done (.ret v)/\Q v s') E s:=by
 have keep: ∀{h h':Heap} {c:Addr},c∈[z,TI,TO,i1,i2]->P.le h.get?->Heap.SameBut c h h'->P.le h'.get?:=λ{h h' c} hc hp hs b o e=>(hs.2 b (λq=>by rw[q,off c hc] at e;cases e)).trans (hp b o e)
 have mz:z∈[z,TI,TO,i1,i2]:= .head _
 have DU:TO∈[z,TI,TO,i1,i2]:= .tail _ (.tail _ (.head _))
 have m1:i1∈[z,TI,TO,i1,i2]:= .tail _ (.tail _ (.tail _ (.head _)))
 have m2:i2∈[z,TI,TO,i1,i2]:= .tail _ (.tail _ (.tail _ (.tail _ (.head _))))
 show ai _ _ (field (.ref z) 2>>=_) _ _ _
 refine wb (eE hz rfl (x:= .bool false) rfl ?_)
 show ai _ _ (field (.ref z) 3>>=_) _ _ _
 refine wb (eE hz rfl (x:= .ref TI) rfl ?_)
 refine wb (jC jb rfl ?_)
 show ai _ _ (tX (.ref z)>>=_) _ _ _
 refine wb ?_
 unfold tX
 refine wb (eE hz rfl (x:= .none) rfl (aq ?_))
 refine wp_if_yes rfl ?_
 refine wb (fj ?_)
 refine wb (eE hz rfl (x:= .ref TO) rfl ?_)
 refine wb (dX hz (Nat.le_of_ble_eq_true rfl) λaD kM cY=>?_)
 replace kM:i5 aD z TI TO .ellipsis:=kM
 have fB:=keep mz hp cY
 refine wb ?_
 show ai _ _ (gO [((.ref i1:Value),0),(.ref i2,1)] _ _) _ _ _
 rw[xx]
 refine wb (wb (xE ?_))
 show ai _ _ (mY (.ref i1)>>=_) _ _ _
 refine wb (ye (s:={s with heap:=aD}) fB (I1.same (PM.le.refl P) (cY.2 _ D.i1z)) rfl λx aI rx JD cJ=>aq ?_)
 replace cJ:Heap.SameBut i1 aD aI:=cJ
 have jO:=keep m1 fB cJ
 have u6:gM aI TO u v:=cJ.extBut _ _ D.TOi1 (cY.extBut _ _ D.TOz jx)
 refine wb (jC u6 rfl ?_)
 refine wb (Fj u6 λbK yt dB=>?_)
 replace yt:gM bK TO x v:=yt
 replace dB:Heap.SameBut TO aI bK:=dB
 have vp:=keep DU jO dB
 refine wb (ug (aq ?_))
 dsimp only[KB]
 rw[xx]
 refine wb (wb (xE ?_))
 show ai _ _ (mY (.ref i2)>>=_) _ _ _
 refine wb (ye (s:={s with heap:=bK}) vp (I2.same (PM.le.refl P) ((dB.2 _ D.TOi2.symm).trans ((cJ.2 _ D.i12.symm).trans (cY.2 _ D.i2z)))) rfl λy dO ry VQ jp=>aq ?_)
 replace jp:Heap.SameBut i2 bK dO:=jp
 have IS:gM dO TO x v:=jp.extBut _ _ D.TOi2 yt
 refine wb (jC IS rfl ?_)
 refine wb (Fj IS λdi yu fZ=>?_)
 replace yu:gM di TO x y:=yu
 replace fZ:Heap.SameBut TO dO di:=fZ
 refine wb (ug (aq (aq ?_)))
 refine wb (jC yu rfl ?_)
 refine wb (xy ?_)
 have iI:di.objs.size=s.heap.objs.size:=by rw[fZ.1,jp.1,dB.1,cJ.1,cY.1]
 have JE:i5 di z TI TO .ellipsis:=fZ.extBut _ _ D.TOz.symm (jp.extBut _ _ D.i2z.symm (dB.extBut _ _ D.TOz.symm (cJ.extBut _ _ D.i1z.symm kM)))
 have JF: ∀c o,c≠z->c≠TO->c≠i1->c≠i2->s.heap.get? c=some o->di.get? c=some o:=λc o c1 c2 c3 c4 e=>
  fZ.extBut _ _ c2 (jp.extBut _ _ c4 (dB.extBut _ _ c2 (cJ.extBut _ _ c3 (cY.extBut _ _ c1 e))))
 have JG:cA G.w.params P di i1 r:=((JD.same (PM.le.refl P) (dB.2 _ D.TOi1.symm)).same (PM.le.refl P) (jp.2 _ D.i12)).same (PM.le.refl P) (fZ.2 _ D.TOi1.symm)
 have JH:cA G.w.params P di i2 t:=VQ.same (PM.le.refl P) (fZ.2 _ D.TOi2.symm)
 have Kn:z<di.objs.size:=Heap.lt_size JE
 show ai _ _ (Ac (.ref z) (.ref di.objs.size)>>=_) _ _ _
 refine wb ?_
 unfold Ac
 have VR:i5 (di.push {cls:= .type "tuple",data:= .seq #[x,y]}) z TI TO .ellipsis:=Heap.get?_push_of_some _ JE
 refine wb (dX VR (Nat.le_of_ble_eq_true rfl) λpi CL oZ=>?_)
 replace CL:i5 pi z TI TO (cz di.objs.size):=CL
 refine dX CL (Nat.le_of_ble_eq_true rfl) λta yM JI=>?_
 replace yM:i5 ta z TI TO (cz di.objs.size):=yM
 have up: ∀c o,c≠z->di.get? c=some o->ta.get? c=some o:=λc o c1 e=>JI.extBut _ _ c1 (oZ.extBut _ _ c1 (Heap.get?_push_of_some _ e))
 have JJ:gM ta di.objs.size x y:=JI.extBut _ _ (Nat.ne_of_gt Kn) (oZ.extBut _ _ (Nat.ne_of_gt Kn) (Heap.get?_push_size _ rfl))
 rw[iI] at yM JJ
 refine aq ⟨_,rfl,?_⟩
 show Q (.ref di.objs.size) _
 rw[iI]
 have VS:cA G.w.params P ta i1 r:=by obtain⟨o,ho⟩:=JG.d_;exact JG.same (PM.le.refl P) ((up _ o D.i1z ho).trans ho.symm)
 have VT:cA G.w.params P ta i2 t:=by obtain⟨o,ho⟩:=JH.d_;exact JH.same (PM.le.refl P) ((up _ o D.i2z ho).trans ho.symm)
 exact hQ ta x y rx ry yM (up _ _ D.TIz (JF _ _ D.TIz D.TITO D.TIi1 D.TIi2 jb)) (up _ _ D.TOz yu) VS VT JJ λc o c1 c2 c3 c4 e=>up c o c1 (JF c o c1 c2 c3 c4 e)
theorem Tb{z TI TO i1 i2:Addr}{u:Value}{Q:Fin->Shared->Prop}(hh:A.handled=none)(D:yr z TI TO i1 i2)(hz:i5 s.heap z TI TO .none)(jb:gM s.heap TI (.ref i1) (.ref i2))(jx:gM s.heap TO u v)
  (hp:P.le s.heap.get?) (off: ∀c∈[z,TI,TO,i1,i2],P c=none) (I1:cA G.w.params P s.heap i1 l) (I2:cA G.w.params P s.heap i2 l') (Df:l=[]\/l'=[])
  (hE: ∀h' e,(∀c o,c≠z->c≠TO->c≠i1->c≠i2->s.heap.get? c=some o->h'.get? c=some o)->(∃o,h'.get? e=some o/\o.cls= .type "StopIteration")->E (.ref e) {s with heap:=h'}):
  ai GM A (cF.«zip.__next__» ⟨[.ref z],[]⟩) Q E s:=by
 have keep: ∀{h h':Heap} {c:Addr},c∈[z,TI,TO,i1,i2]->P.le h.get?->Heap.SameBut c h h'->P.le h'.get?:=λ{h h' c} hc hp hs b o e=>(hs.2 b (λq=>by rw[q,off c hc] at e;cases e)).trans (hp b o e)
 have mz:z∈[z,TI,TO,i1,i2]:= .head _
 have DU:TO∈[z,TI,TO,i1,i2]:= .tail _ (.tail _ (.head _))
 have m1:i1∈[z,TI,TO,i1,i2]:= .tail _ (.tail _ (.tail _ (.head _)))
 have m2:i2∈[z,TI,TO,i1,i2]:= .tail _ (.tail _ (.tail _ (.tail _ (.head _))))
 show ai _ _ (field (.ref z) 2>>=_) _ _ _
 refine wb (eE hz rfl (x:= .bool false) rfl ?_)
 show ai _ _ (field (.ref z) 3>>=_) _ _ _
 refine wb (eE hz rfl (x:= .ref TI) rfl ?_)
 refine wb (jC jb rfl ?_)
 show ai _ _ (tX (.ref z)>>=_) _ _ _
 refine wb ?_
 unfold tX
 refine wb (eE hz rfl (x:= .none) rfl (aq ?_))
 refine wp_if_yes rfl ?_
 refine wb (fj ?_)
 refine wb (eE hz rfl (x:= .ref TO) rfl ?_)
 refine wb (dX hz (Nat.le_of_ble_eq_true rfl) λaD kM cY=>?_)
 replace kM:i5 aD z TI TO .ellipsis:=kM
 have fB:=keep mz hp cY
 refine wb ?_
 show ai _ _ (gO [((.ref i1:Value),0),(.ref i2,1)] _ _) _ _ _
 rw[xx]
 refine wb (wb (xE ?_))
 show ai _ _ (mY (.ref i1)>>=_) _ _ _
 have JK:=I1.same (h':=aD) (PM.le.refl P) (cY.2 _ D.i1z)
 cases hl:l with
 |nil=>
  refine wb (Cc (s:={s with heap:=aD}) hh fB JK hl λaI e cJ he=>?_)
  obtain⟨oe,rh,wA⟩:=he
  have JL:i5 aI z TI TO .ellipsis:=cJ _ _ D.i1z.symm kM
  have DW:e≠z:=λx=>by subst x;rw[JL] at rh;cases rh;simp at wA
  refine dX JL (Nat.le_of_ble_eq_true rfl) λbK ω dB=>hE bK e (λc o c1 ω c3 ω x=>dB.extBut _ _ c1 (cJ _ _ c3 (cY.extBut _ _ c1 x))) ⟨oe,dB.extBut _ _ DW rh,wA⟩
 |cons a r=>
  have hy:l'=[]:=by rcases Df with h |h;rw[hl] at h;cases h;exact h
  refine wb (ye (s:={s with heap:=aD}) fB JK hl λx aI rx JD cJ=>aq ?_)
  replace cJ:Heap.SameBut i1 aD aI:=cJ
  have jO:=keep m1 fB cJ
  have u6:gM aI TO u v:=cJ.extBut _ _ D.TOi1 (cY.extBut _ _ D.TOz jx)
  refine wb (jC u6 rfl ?_)
  refine wb (Fj u6 λbK yt dB=>?_)
  replace dB:Heap.SameBut TO aI bK:=dB
  have vp:=keep DU jO dB
  refine wb (ug (aq ?_))
  refine wb (wb (xE ?_))
  show ai _ _ (mY (.ref i2)>>=_) _ _ _
  refine wb (Cc (s:={s with heap:=bK}) hh vp (I2.same (PM.le.refl P) ((dB.2 _ D.TOi2.symm).trans ((cJ.2 _ D.i12.symm).trans (cY.2 _ D.i2z)))) hy λdO e jp he=>?_)
  obtain⟨oe,rh,wA⟩:=he
  have JM:i5 dO z TI TO .ellipsis:=jp _ _ D.i2z.symm (dB.extBut _ _ D.TOz.symm (cJ.extBut _ _ D.i1z.symm kM))
  have DW:e≠z:=λx=>by subst x;rw[JM] at rh;cases rh;simp at wA
  refine dX JM (Nat.le_of_ble_eq_true rfl) λdi ω fZ=>hE di e (λc o c1 c2 c3 c4 x=>fZ.extBut _ _ c1 (jp _ _ c4 (dB.extBut _ _ c2 (cJ.extBut _ _ c3 (cY.extBut _ _ c1 x))))) ⟨oe,fZ.extBut _ _ DW rh,wA⟩
end
section
variable{n:Nat}{af:Env}{m:au}{X P:PM}{σ:ah}{s:Shared}{A:bo}
inductive ju(p:bg)(P:PM)(h:Heap):Value->ae Addr->ae AV->Prop
 |mk {z TI TO i1 i2:Addr} {u v:Value} {l l':ae AV} (D:yr z TI TO i1 i2) (hz:i5 h z TI TO .none) (jb:gM h TI (.ref i1) (.ref i2)) (jx:gM h TO u v) (I1:cA p P h i1 l) (I2:cA p P h i2 l'):ju p P h (.ref z) [z,TI,TO,i1,i2] (jN l l')
theorem Py{r:ae AV}(h:jN l l'=a::r){C:ae AV->ae AV->Prop}(k: ∀x t y t',a= .tup [x,y]->r=jN t t'->C (x::t) (y::t')):C l l':=by
 cases l with
 |nil=>exact nomatch h
 |cons x t=>cases l' with
  |nil=>exact nomatch h
  |cons y t'=>exact k x t y t' (eC h).1.symm (eC h).2.symm
theorem Qb(h:jN l l'=[]):l=[]\/l'=[]:=by
 cases l with
 |nil=>exact .inl rfl
 |cons x t=>cases l' with
  |nil=>exact .inr rfl
  |cons y t'=>exact nomatch h
theorem Dg{R:Addr->Prop}{a b c d e:Addr}(h1:R a)(h2:R b)(h3:R c)(h4:R d)(h5:R e): ∀x∈[a,b,c,d,e],R x:=λx h=>
 (aY.mp h).elim (λe=>e▸h1) λh=>(aY.mp h).elim (λe=>e▸h2) λh=>(aY.mp h).elim (λe=>e▸h3) λh=>(aY.mp h).elim (λe=>e▸h4) λh=>aW.mp h▸h5
theorem qC{a:Addr}(k: ∃o,h.get? a=some o):h.objs.size≠a:=λq=>k.elim λω ho=>Nat.lt_irrefl _ (q▸Heap.lt_size ho)
theorem Qc{P:PM}{fp:ae Addr}(I:ju p P h it fp L): ∀a∈fp,∃o,h.get? a=some o:=
 I.rec λD hz jb jx I1 I2=>Dg ⟨_,hz⟩ ⟨_,jb⟩ ⟨_,jx⟩ I1.d_ I2.d_
theorem Q9{P:PM}{fp:ae Addr}(I:ju p P h it fp L)(hP:P.le P'):(∀a∈fp,h'.get? a=h.get? a)->ju p P' h' it fp L:=
 I.rec (motive:=λit fp L ω=>(∀a∈fp,h'.get? a=h.get? a)->ju p P' h' it fp L) λD hz jb jx I1 I2 e=>
  .mk D ((e _ (.head _)).trans hz) ((e _ (.tail _ (.head _))).trans jb) ((e _ (.tail _ (.tail _ (.head _)))).trans jx) (I1.same hP (e _ (.tail _ (.tail _ (.tail _ (.head _)))))) (I2.same hP (e _ (.tail _ (.tail _ (.tail _ (.tail _ (.head _)))))))
theorem Qd{P:PM}{A:bo}{fp:ae Addr}{Q:Value->Shared->Prop}(I:ju p P s.heap it fp L):Q it s->ai GM A (hW it) Q (λω ω=>False) s:=
 I.rec (motive:=λit ω ω ω=>Q it s->ai GM A (hW it) Q (λω ω=>False) s) λω hz ω ω ω ω h=>Ob hz h
theorem Ko{a b c d e x:Addr}(h:x∉[a,b,c,d,e]):x≠a/\x≠b/\x≠c/\x≠d/\x≠e:=
 ⟨λe=>h (e▸ .head _),λe=>h (e▸ .tail _ (.head _)),λe=>h (e▸ .tail _ (.tail _ (.head _))),λe=>h (e▸ .tail _ (.tail _ (.tail _ (.head _)))),λe=>h (e▸ .tail _ (.tail _ (.tail _ (.tail _ (.head _)))))⟩
theorem Q_{fp:ae Addr}{r:ae AV}{R:Value->Shared->Prop}(T:At af m X P σ s)(I:ju G.w.params P s.heap it fp L):bM af X P σ fp->L=a::r->
  (∀v aH,ai GM A (k_ (.Tuple ts k tp) it v) (λω aV=>R v aV) (λω ω=>False) aH->Q (some v) aH)->
  (∀v P' s',P.le P'->At af m X P' σ s'->RepV G.w.params P' a v->bM af X P' σ fp->ju G.w.params P' s'.heap it fp r->R v s')->ai GM A (cR it) Q (λω ω=>False) s:=
 I.rec (motive:=λit fp L ω=>bM af X P σ fp->L=a::r->(∀v aH,ai GM A (k_ (.Tuple ts k tp) it v) (λω aV=>R v aV) (λω ω=>False) aH->Q (some v) aH)->
  (∀v P' s',P.le P'->At af m X P' σ s'->RepV G.w.params P' a v->bM af X P' σ fp->ju G.w.params P' s'.heap it fp r->R v s')->ai GM A (cR it) Q (λω ω=>False) s) λ{z TI TO i1 i2 u v l l'} D hz jb jx I1 I2 O e kk h=>by
  revert I1 I2
  refine Py e (C:=λl l'=>cA _ _ _ _ l->cA _ _ _ _ l'->_) λx t y t' ea er I1 I2=>?_
  subst ea er
  have hT:s.TypeIs (.ref z) "zip":=⟨_,hz,rfl⟩
  have off: ∀c∈[z,TI,TO,i1,i2],P c=none:=λc hc=>(O c hc).2.2.1
  unfold cR
  refine wb (lq (iM (name:=Str.ofString "__next__") hT PySem.F.slot_zip_next (dY PySem.F.slot_zip_next hT PySem.F.entry_zip_next
   (Q8 D hz jb jx T.inv.p off I1 I2 λh' x' y' rx ry fx WM WN Yv Yw hn hk=>aq (kk _ _ ?_)) (PySem.F.args_zip_next_1 _))))
  refine wpAny_letOwnedTupleGo_zip (s:={s with heap:=h'}) fx λmT WO hs=>?_
  replace hs:Heap.SameBut z h' mT:=hs
  have aL:At af m X P σ {s with heap:=mT}:=T.ext (t:=s.toks) O λb o hb eb=>by
   have q:=Ko hb
   exact(hs.2 b q.1).trans (hk b o q.1 q.2.2.1 q.2.2.2.1 q.2.2.2.2 eb)
  have bj:s.heap.objs.size∉[z,TI,TO,i1,i2]:=λhm=>Dg (R:=λa=>s.heap.objs.size≠a) (qC ⟨_,hz⟩) (qC ⟨_,jb⟩) (qC ⟨_,jx⟩) (qC I1.d_) (qC I2.d_) _ hm rfl
  have Dh:mT.get? s.heap.objs.size=some (dE #[x',y'] 0):=(hs.2 _ λq=>bj (by rw[q];exact .head _)).trans hn
  have f:=(bM.fresh T) _ (.head _)
  have hP:=oR (dE #[x',y'] 0) f.2.2.1
  refine h _ _ _ hP (aL.qB f Dh) (.tup (iS ..) (.cons (rx.mono hP) (.cons (ry.mono hP) .nil))) (λc hc=>?_) ?_
  .have o:=O c hc
   exact⟨o.1,o.2.1,(lw P _ (a:=s.heap.objs.size) (b:=c) λq=>bj (q▸hc)).trans o.2.2.1,o.2.2.2⟩
  .exact .mk D WO ((hs.2 _ D.TIz).trans WM) ((hs.2 _ D.TOz).trans WN) (Yv.same hP (hs.2 _ D.i1z)) (Yw.same hP (hs.2 _ D.i2z))
theorem Ra{fp:ae Addr}(hh:A.handled=none)(T:At af m X P σ s)(I:ju G.w.params P s.heap it fp L):bM af X P σ fp->L=[]->
  (∀P' s',P.le P'->At af m X P' σ s'->Q none s')->ai GM A (cR it) Q (λω ω=>False) s:=
 I.rec (motive:=λit fp L ω=>bM af X P σ fp->L=[]->(∀P' s',P.le P'->At af m X P' σ s'->Q none s')->ai GM A (cR it) Q (λω ω=>False) s) λ{z TI TO i1 i2 u v l l'} D hz jb jx I1 I2 O e h=>by
  have off: ∀c∈[z,TI,TO,i1,i2],P c=none:=λc hc=>(O c hc).2.2.1
  have hT:s.TypeIs (.ref z) "zip":=⟨_,hz,rfl⟩
  unfold cR
  refine wb (lq (iM (name:=Str.ofString "__next__") hT PySem.F.slot_zip_next (dY PySem.F.slot_zip_next hT PySem.F.entry_zip_next
   (Tb hh D hz jb jx T.inv.p off I1 I2 (Qb e) λh' e hk he=>?_) (PySem.F.args_zip_next_1 _))))
  refine he.elim λo he=>wb (t8 (T:="StopIteration") (b:=true) ⟨o,he.1,he.2⟩ FL ?_)
  refine aq (h P _ (PM.le.refl P) (T.ext (t:=s.toks) O λb o hb eb=>?_))
  have q:=Ko hb
  exact hk b o q.1 q.2.2.1 q.2.2.2.1 q.2.2.2.2 eb
theorem Rb:jn (.Tuple ts k tp) (ju G.w.params) where
 d_:=Qc
 same:=Q9
 next:=λT O I kk h=>Q_ T I O rfl kk h
 stop:=λhh T O I h=>Ra hh T I O rfl h
 again:=Qd
end
noncomputable def jP(T:dK)(l:Addr):Obj:={cls:= .type T,data:= .fields #[.ref l,.int 0 0]}
noncomputable def zx(T:dK)(h:Heap)(l1:Addr):Heap:=h.push (jP T l1)
noncomputable def wB(T:dK)(h:Heap)(l1 l2:Addr):Heap:=(zx T h l1).push (jP T l2)
noncomputable def wC(T:dK)(h:Heap)(l1 l2:Addr):Heap:=(wB T h l1 l2).push {cls:= .type "tuple",data:= .seq #[.ref h.objs.size,.ref (zx T h l1).objs.size]}
noncomputable def ri(T:dK)(h:Heap)(l1 l2:Addr):Heap:=(wC T h l1 l2).push {cls:= .type "tuple",data:= .seq #[.none,.none]}
noncomputable def jy(T:dK)(h:Heap)(l1 l2:Addr):Heap:=(ri T h l1 l2).push {cls:= .type "zip",data:= .fields #[.none,.bool false,.bool false,.ref (wB T h l1 l2).objs.size,.ref (wC T h l1 l2).objs.size]}
theorem OX(l1 l2:Addr)(xs ys:ay Value):
  sL (cF.«zip.__new__» ⟨[.type "zip",.ref l1,.ref l2],[]⟩) (λω R s=>s.heap.IsTuple l1 xs/\s.heap.IsTuple l2 ys/\
   R (.ok (.ret (.ref (ri "tuple_iterator" s.heap l1 l2).objs.size))) {s with heap:=jy "tuple_iterator" s.heap l1 l2}):=
 .of_wp λprog w A R s h=>by
  obtain⟨hp,g,d,tk,os⟩:=s;obtain⟨zy,Yx,h⟩:=h
  have vU:=sub_zip
  have Yy:Heap.IsTuple (Shared.heap ⟨hp,g,d,tk,os⟩) l1 xs:=zy
  have pN:Heap.IsTuple (Shared.heap ⟨hp.push {cls:= .type "tuple_iterator",data:= .fields #[.ref l1,.int 0 0]},g,d,tk,os⟩) l2 ys:=by
   obtain⟨o,ho,z⟩:=Yx;exact⟨o,Heap.get?_push_of_some _ ho,z⟩
  wp_walk using t5 Yy,t5 pN
  exact⟨_,rfl,h⟩
section
variable{n:Nat}{af:Env}{m:au}{X P:PM}{σ:ah}{s:Shared}{A:bo}
theorem Bt(T:dK)(h:Heap)(l1 l2:Addr):let z:=h.objs.size
  i5 (jy T h l1 l2) (z+4) (z+2) (z+3) .none/\gM (jy T h l1 l2) (z+2) (.ref z) (.ref (z+1))/\gM (jy T h l1 l2) (z+3) .none .none/\
  (jy T h l1 l2).get? z=some (jP T l1)/\(jy T h l1 l2).get? (z+1)=some (jP T l2)/\(ri T h l1 l2).objs.size=z+4/\(∀c o,h.get? c=some o->(jy T h l1 l2).get? c=some o):=by
 have z1:(zx T h l1).objs.size=h.objs.size+1:=Heap.size_push ..
 have z2:(wB T h l1 l2).objs.size=h.objs.size+2:=by rw[wB,Heap.size_push,z1]
 have z3:(wC T h l1 l2).objs.size=h.objs.size+3:=by rw[wC,Heap.size_push,z2]
 have z4:(ri T h l1 l2).objs.size=h.objs.size+4:=by rw[ri,Heap.size_push,z3]
 have g5:(jy T h l1 l2).get? (ri T h l1 l2).objs.size=some _:=Heap.get?_push_size _ rfl
 have g4:(jy T h l1 l2).get? (wC T h l1 l2).objs.size=some _:=Heap.get?_push_of_some _ (Heap.get?_push_size _ rfl)
 have g3:(jy T h l1 l2).get? (wB T h l1 l2).objs.size=some _:=Heap.get?_push_of_some _ (Heap.get?_push_of_some _ (Heap.get?_push_size _ rfl))
 have g2:(jy T h l1 l2).get? (zx T h l1).objs.size=some (jP T l2):=Heap.get?_push_of_some _ (Heap.get?_push_of_some _ (Heap.get?_push_of_some _ (Heap.get?_push_size _ rfl)))
 have g1:(jy T h l1 l2).get? h.objs.size=some (jP T l1):=Heap.get?_push_of_some _ (Heap.get?_push_of_some _ (Heap.get?_push_of_some _ (Heap.get?_push_of_some _ (Heap.get?_push_size _ rfl))))
 rw[z2,z3,z4] at g5
 rw[z1,z2] at g3
 rw[z3] at g4
 rw[z1] at g2
 exact⟨g5,g3,g4,g1,g2,z4,λc o x=>Heap.get?_push_of_some _ (Heap.get?_push_of_some _ (Heap.get?_push_of_some _ (Heap.get?_push_of_some _ (Heap.get?_push_of_some _ x))))⟩
theorem bM.many(T:At af m X P σ s)(k:Nat): ∀a,s.heap.objs.size<=a->σ a=none/\X a=none/\P a=none/\a≠af.locals/\ ∀x,af.cells.lookup x≠some a:=λa ha=>by
 have I:=T.inv
 have key: ∀o,s.heap.get? a≠some o:=λo e=>ax (Heap.lt_size e) (Nat.not_lt.mpr ha)
 refine⟨?_,?_,?_,λe=>?_,λx e=>?_⟩
 .cases q:σ a with
  |none=>rfl
  |some ao=>obtain⟨o,ho,_⟩:=I.st _ _ q;exact ax ho (key o)
 .cases q:X a with
  |none=>rfl
  |some o=>exact ax (I.x _ _ q) (key o)
 .cases q:P a with
  |none=>rfl
  |some o=>exact ax (I.p _ _ q) (key o)
 .obtain⟨mc,hn,_⟩:=T.fr.ns
  obtain⟨o,ho⟩:=Heap.Ns.some hn
  exact key o (e▸ho)
 .obtain⟨⟨v,hv,_⟩,_⟩:=T.fr.cell x _ e
  obtain⟨o,ho⟩:=Heap.IsCell.some hv
  exact key o ho
inductive y7:AV->AV->ae AV->ae AV->Prop
 |lst (l l':ae AV):y7 (.lst l) (.lst l') l l'
 |tup (l l':ae AV):y7 (.tup l) (.tup l') l l'
theorem apart{n:Nat}(i j:Nat)(h:i≠j:=by decide):n+i≠n+j:=λe=>h (Nat.add_left_cancel e)
theorem Ha(T:At af m X P σ s){TT:dK}{l1 l2:Addr}{la lb:ae AV}(i1: ∀h:Heap,(∀c o,s.heap.get? c=some o->h.get? c=some o)->h.get? s.heap.objs.size=some (jP TT l1)->cA G.w.params P h s.heap.objs.size la)
  (i2: ∀h:Heap,(∀c o,s.heap.get? c=some o->h.get? c=some o)->h.get? (s.heap.objs.size+1)=some (jP TT l2)->cA G.w.params P h (s.heap.objs.size+1) lb) {Q:Value->Shared->Prop}
  (k: ∀z fp s',At af m X P σ s'->bM af X P σ fp->ju G.w.params P s'.heap (.ref z) fp (jN la lb)->(∃TI TO,i5 s'.heap z TI TO .none)->Q (.ref z) s'):
  Q (.ref (ri TT s.heap l1 l2).objs.size) {s with heap:=jy TT s.heap l1 l2}:=by
 obtain⟨g1,g2,g3,g4,g5,g6,g7⟩:=Bt TT s.heap l1 l2
 rw[g6]
 have T':At af m X P σ {s with heap:=jy TT s.heap l1 l2}:=T.grow (t:=s.toks) g7
 refine k _ [s.heap.objs.size+4,s.heap.objs.size+2,s.heap.objs.size+3,s.heap.objs.size,s.heap.objs.size+1] _ T' (λa ha=>bM.many T 0 a (Dg (R:=(s.heap.objs.size<= ·)) (Nat.le_add_right _ _) (Nat.le_add_right _ _) (Nat.le_add_right _ _) (Nat.le_refl _) (Nat.le_add_right _ _) a ha)) ?_ ⟨_,_,g1⟩
 exact .mk ⟨apart 2 4,apart 3 4,apart 0 4,apart 1 4,apart 2 3,apart 2 0,apart 2 1,apart 3 0,apart 3 1,apart 0 1⟩ g1 g2 g3 (i1 _ g7 g4) (i2 _ g7 g5)
theorem Rc(T:At af m X P σ s){u:Value}{la lb:ae AV}(S:y7 a b la lb)(ra:RepV G.w.params P a u)(rb:RepV G.w.params P b v){Q:Value->Shared->Prop}
  (k: ∀z fp s',At af m X P σ s'->bM af X P σ fp->ju G.w.params P s'.heap (.ref z) fp (jN la lb)->(∃TI TO,i5 s'.heap z TI TO .none)->Q (.ref z) s'):ai GM A (call (.type "zip") [u,v]) Q E s:=by
 have I:=T.inv
 cases S with
 |lst=>
  cases ra with | @lst _ l1 u7 k1 h1 r1=>
  cases rb with | @lst _ l2 dm k2 h2 r2=>
  refine FZ PySem.F.called_zip (by decide) (PySem.F.typeCall_zip_2 _ _) (PySem.F.newCall_zip_2 _ _) (λobj=>PySem.F.args_object_init_3 obj _ _) PySem.F.entry_zip_new
   (meets_zip_new l1 l2 u7 dm) ⟨⟨_,I.p _ _ h1,rfl,_,rfl⟩,⟨_,I.p _ _ h2,rfl,_,rfl⟩,?_⟩
  have g:=Bt "list_iterator" s.heap l1 l2
  refine⟨⟨_,by have:=g.1;rw[<- g.2.2.2.2.2.1] at this;exact this,rfl⟩,?_⟩
  refine Ha T (TT:="list_iterator") (λh hk e=>?_) (λh hk e=>?_) k
  .have:=cA.list (p:=G.w.params) (P:=P) (h:=h) (i:=0) ⟨_,e,rfl,rfl⟩ h1 r1;exact this
  .have:=cA.list (p:=G.w.params) (P:=P) (h:=h) (i:=0) ⟨_,e,rfl,rfl⟩ h2 r2;exact this
 |tup=>
  cases ra with | @tup _ l1 u7 k1 h1 r1=>
  cases rb with | @tup _ l2 dm k2 h2 r2=>
  refine FZ PySem.F.called_zip (by decide) (PySem.F.typeCall_zip_2 _ _) (PySem.F.newCall_zip_2 _ _) (λobj=>PySem.F.args_object_init_3 obj _ _) PySem.F.entry_zip_new
   (OX l1 l2 u7 dm) ⟨⟨_,I.p _ _ h1,rfl,_,rfl⟩,⟨_,I.p _ _ h2,rfl,_,rfl⟩,?_⟩
  have g:=Bt "tuple_iterator" s.heap l1 l2
  refine⟨⟨_,by have:=g.1;rw[<- g.2.2.2.2.2.1] at this;exact this,rfl⟩,?_⟩
  refine Ha T (TT:="tuple_iterator") (λh hk e=>?_) (λh hk e=>?_) k
  .have:=cA.tuple (p:=G.w.params) (P:=P) (h:=h) (i:=0) ⟨_,e,rfl,rfl⟩ h1 r1;exact this
  .have:=cA.tuple (p:=G.w.params) (P:=P) (h:=h) (i:=0) ⟨_,e,rfl,rfl⟩ h2 r2;exact this
inductive WP(Q:ae AV->ah->Prop)(l:ae AV)(aO:ah):Prop
 |mk (a b:AV) (la lb:ae AV) (e:l=[a,b]) (hs:y7 a b la lb) (q:Q (jN la lb) aO)
theorem w_zip{fe:Expr}{pos:Pos}{Q:ae AV->ah->Prop}
  (he: ∀af,eval (.Call fe args [] pos) af=(do qh pos (<- eval fe af) [] (jI pos (g_ args af)) (backToKw pos (F_ [] af))))
  (h:aQ n af fe m σ λa ap=>a= .raw (.type "zip")/\iG n af args m ap (WP Q)):iy n af (.Tuple ts k tp) (.Call fe args [] pos) m σ Q:=by
 intro A X P s hA T
 refine Call_ (aC.with (h A X P s hA T) λv aH aR ap a aJ aL bF pq=>?_) (he af)
 obtain⟨e,aD⟩:=pq
 subst e;cases bF
 refine AT A af pos [] args _ _ aH aD.1 (gC.jZ aL.inv) (aC.with (aD.2 A X aR aH pos hA aL) λvs aV bA aO l bm ba b_ ⟨a,b,la,lb,e,S,q⟩=>⟨gC.jZ ba.inv,?_⟩)
 subst e
 cases b_ using RepL.consE with |cons ra b_=>
 cases b_ using RepL.consE with |cons rb b_=>
 cases b_
 refine Rc ba S ra rb λz fp eJ c8 iz y8 hz=>?_
 obtain⟨TI,TO,hz⟩:=hz
 exact Ob hz ⟨bA,aO,_,ju G.w.params,fp,Rb,aJ.trans bm,c8,iz,y8,q⟩
end
theorem wp_ct{M:Model}{A:bo}{s:Shared}{Q:Bool->Shared->Prop}(h: ∀b,Q b s):ai M A (E5 v) Q E s:=by
 unfold E5
 exact wb (wpAny_stack_any λst=>aq (h _))
theorem Op(l:Addr)(items:ay Value):
  sL (cF.«enumerate.__new__» ⟨[.type "enumerate",.ref l],[]⟩) (λω R s=>s.heap.IsTuple l items/\
   R (.ok (.ret (.ref (s.heap.push (jP "tuple_iterator" l)).objs.size)))
    {s with heap:=(s.heap.push (jP "tuple_iterator" l)).push {cls:= .type "enumerate",data:= .fields #[.none,.bool false,.ref s.heap.objs.size,cz 0,.none,.none]} }):=
 .of_wp λprog w A R s h=>by
  obtain⟨hp,g,d,tk,os⟩:=s;obtain⟨hL,h⟩:=h
  have vU:=sub_enumerate
  have hL:Heap.IsTuple (Shared.heap ⟨hp,g,d,tk,os⟩) l items:=hL
  unfold cF.«enumerate.__new__»
  refine gn (E5) λct hc=>?_
  wp_walk
  subst hc
  refine wp_ct λb=>?_
  cases b
  .wp_walk using t5 hL
   exact⟨_,rfl,h⟩
  .wp_walk using t5 hL
   exact⟨_,rfl,h⟩
noncomputable def sF(i:aj):ae AV->ae AV
 |[]=>[]
 |a::r=> .tup [.int i,a]::sF (i+1) r
section
variable{n:Nat}{af:Env}{m:au}{X P:PM}{σ:ah}{s:Shared}{A:bo}
theorem Qe{e it:Addr}{old:Value}{r:ae AV}{Q:Value->Shared->Prop}(cj:e≠it)(he:qv s.heap e it i old)(hp:P.le s.heap.get?)(off: ∀c∈[e,it],P c=none)(I:cA G.w.params P s.heap it (a::r))
  (hQ: ∀h' x,RepV G.w.params P a x->Gy h' e it ((i:aj)+1) x s.heap.objs.size->cA G.w.params P h' it r->h'.get? s.heap.objs.size=some {cls:= .type "tuple",data:= .seq #[.int i s.toks,x]}->
   (∀b o,b≠e->b≠it->s.heap.get? b=some o->h'.get? b=some o)->Q (.ref s.heap.objs.size) {s with heap:=h',toks:=s.toks+1}):
  ai GM A (cF.«enumerate.__next__» ⟨[.ref e],[]⟩) (λfin s'=> ∃v,fin= .done (.ret v)/\Q v s') E s:=by
 obtain⟨pO,g,d,tk,os⟩:=s
 show ai _ _ (field (.ref e) 2>>=_) _ _ _
 refine wb (eE he rfl (x:= .ref it) rfl ?_)
 refine wb (ye hp I rfl λx aD rx gS cY=>?_)
 replace cY:Heap.SameBut it pO aD:=cY
 have ir:qv aD e it i old:=(cY.2 e cj).trans he
 show ai _ _ (field (.ref e) 3>>=_) _ _ ⟨aD,g,d,tk,os⟩
 refine wb (eE ir rfl (x:=cz i) rfl ?_)
 show ai _ _ (field (.ref e) 4>>=_) _ _ ⟨aD,g,d,tk,os⟩
 refine wb (eE ir rfl (x:= .none) rfl ?_)
 show ai _ _ (mkInt i>>=_) _ _ ⟨aD,g,d,tk,os⟩
 refine wb (wpAny_mkInt ?_)
 show ai _ _ (jh (.ref e) 3 (cz ((i:aj)+1))>>=_) _ _ ⟨aD,g,d,tk+1,os⟩
 refine wb (dX ir (Nat.le_of_ble_eq_true rfl) λaI eI cJ=>?_)
 replace cJ:Heap.SameBut e aD aI:=cJ
 replace eI:qv aI e it ((i:aj)+1) old:=eI
 show ai _ _ (jh (.ref e) 4 .none>>=_) _ _ ⟨aI,g,d,tk+1,os⟩
 refine wb (dX eI (Nat.le_of_ble_eq_true rfl) λbK o0 dB=>?_)
 replace dB:Heap.SameBut e aI bK:=dB
 replace o0:qv bK e it ((i:aj)+1) old:=o0
 show ai _ _ (Bj [.int i tk,x]>>=_) _ _ ⟨bK,g,d,tk+1,os⟩
 refine wb (xy ?_)
 have sR:qv (bK.push {cls:= .type "tuple",data:= .seq #[.int i tk,x]}) e it ((i:aj)+1) old:=Heap.get?_push_of_some _ o0
 generalize yN:bK.push {cls:= .type "tuple",data:= .seq #[.int i tk,x]}=dO at sR
 have iI:bK.objs.size=pO.objs.size:=by rw[dB.1,cJ.1,cY.1]
 have DX:e<pO.objs.size:=Heap.lt_size he
 have VU:dO.get? pO.objs.size=some {cls:= .type "tuple",data:= .seq #[.int i tk,x]}:=by rw[<- yN,<- iI];exact Heap.get?_push_size _ rfl
 have VV: ∀b o,b≠e->b≠it->pO.get? b=some o->dO.get? b=some o:=λb o rj lP hb=>by
  rw[<- yN];exact Heap.get?_push_of_some _ (dB.extBut b o rj (cJ.extBut b o rj (cY.extBut b o lP hb)))
 have mC:cA G.w.params P bK it r:=(gS.same (PM.le.refl P) (cJ.2 _ cj.symm)).same (PM.le.refl P) (dB.2 _ cj.symm)
 have s_:cA G.w.params P dO it r:=by
  obtain⟨o,ho⟩:=mC.d_
  exact mC.same (PM.le.refl P) (by rw[<- yN,ho];exact Heap.get?_push_of_some _ ho)
 show ai _ _ (tX (.ref e)>>=_) _ _ ⟨dO,g,d,tk+1,os⟩
 rw[iI]
 clear yN o0 dB eI cJ ir cY gS mC iI bK aI aD
 refine wb ?_
 unfold tX
 refine wb (eE sR rfl (x:= .none) rfl (aq ?_))
 refine wp_if_yes rfl ?_
 refine wb (fj ?_)
 refine wb (eE sR rfl (x:=old) rfl ?_)
 refine wb (dX sR (Nat.le_of_ble_eq_true rfl) λdi vq fZ=>?_)
 replace fZ:Heap.SameBut e dO di:=fZ
 replace vq:qv di e it ((i:aj)+1) x:=vq
 show ai _ _ (Ac (.ref e) (.ref pO.objs.size)>>=_) _ _ ⟨di,g,d,tk+1,os⟩
 refine wb ?_
 unfold Ac
 refine wb (dX vq (Nat.le_of_ble_eq_true rfl) λiA vr nL=>?_)
 replace nL:Heap.SameBut e di iA:=nL
 replace vr:Gy iA e it ((i:aj)+1) x pO.objs.size:=vr
 refine dX vr (Nat.le_of_ble_eq_true rfl) λpi CM oZ=>?_
 replace oZ:Heap.SameBut e iA pi:=oZ
 replace CM:Gy pi e it ((i:aj)+1) x pO.objs.size:=CM
 refine wb (ug (aq ⟨_,rfl,hQ pi x rx CM ?_ ?_ ?_⟩))
 .exact((s_.same (PM.le.refl P) (fZ.2 _ cj.symm)).same (PM.le.refl P) (nL.2 _ cj.symm)).same (PM.le.refl P) (oZ.2 _ cj.symm)
 .exact oZ.extBut _ _ (Nat.ne_of_gt DX) (nL.extBut _ _ (Nat.ne_of_gt DX) (fZ.extBut _ _ (Nat.ne_of_gt DX) VU))
 .exactλb o rj lP hb=>oZ.extBut b o rj (nL.extBut b o rj (fZ.extBut b o rj (VV b o rj lP hb)))
inductive mt(p:bg)(P:PM)(h:Heap):Value->ae Addr->ae AV->Prop
 |mk {e it:Addr} {i:Nat} {old:Value} {l:ae AV} (cj:e≠it) (he:qv h e it i old) (I:cA p P h it l):mt p P h (.ref e) [e,it] (sF i l)
theorem Kp{R:Addr->Prop}{a b:Addr}(h1:R a)(h2:R b): ∀x∈[a,b],R x:=λx h=>(aY.mp h).elim (λe=>e▸h1) λh=>aW.mp h▸h2
theorem y9{a b x:Addr}(h:x∉[a,b]):x≠a/\x≠b:=⟨λe=>h (e▸ .head _),λe=>h (e▸ .tail _ (.head _))⟩
theorem Pz{P:PM}{A:bo}{fp:ae Addr}{Q:Value->Shared->Prop}(I:mt p P s.heap v fp L):Q v s->ai GM A (hW v) Q (λω ω=>False) s:=
 I.rec (motive:=λv ω ω ω=>Q v s->ai GM A (hW v) Q (λω ω=>False) s) λ{e it i old l} cj he I h=>by
  have hT:s.TypeIs (.ref e) "enumerate":=⟨_,he,rfl⟩
  refine AA hT PySem.F.slot_enumerate_iter (dY PySem.F.slot_enumerate_iter hT PySem.F.entry_enumerate_iter ?_ (PySem.F.args_enumerate_iter_1 _))
  show ai _ _ (ret (.ref e)) _ _ s
  exact aq ⟨_,rfl,"enumerate",_,hT,PySem.F.slot_enumerate_next.lookup,h⟩
theorem Qf{fp:ae Addr}{r:ae AV}{R:Value->Shared->Prop}(T:At af m X P σ s)(I:mt G.w.params P s.heap it fp L):bM af X P σ fp->L=a::r->
  (∀v aH,ai GM A (k_ (.Tuple ts k tp) it v) (λω aV=>R v aV) (λω ω=>False) aH->Q (some v) aH)->
  (∀v P' s',P.le P'->At af m X P' σ s'->RepV G.w.params P' a v->bM af X P' σ fp->mt G.w.params P' s'.heap it fp r->R v s')->ai GM A (cR it) Q (λω ω=>False) s:=
 I.rec (motive:=λit fp L ω=>bM af X P σ fp->L=a::r->(∀v aH,ai GM A (k_ (.Tuple ts k tp) it v) (λω aV=>R v aV) (λω ω=>False) aH->Q (some v) aH)->
  (∀v P' s',P.le P'->At af m X P' σ s'->RepV G.w.params P' a v->bM af X P' σ fp->mt G.w.params P' s'.heap it fp r->R v s')->ai GM A (cR it) Q (λω ω=>False) s) λ{e it i old l} cj he I O q kk h=>by
  cases l with
  |nil=>exact nomatch q
  |cons x l=>
  cases q
  have hT:s.TypeIs (.ref e) "enumerate":=⟨_,he,rfl⟩
  have off: ∀c∈[e,it],P c=none:=λc hc=>(O c hc).2.2.1
  unfold cR
  refine wb (lq (iM (name:=Str.ofString "__next__") hT PySem.F.slot_enumerate_next (dY PySem.F.slot_enumerate_next hT PySem.F.entry_enumerate_next
   (Qe cj he T.inv.p off I λh' x' rx tF I' hn hk=>aq (kk _ _ ?_)) (PySem.F.args_enumerate_next_1 _))))
  refine wpAny_letOwnedTupleGo_enum (s:={s with heap:=h',toks:=s.toks+1}) tF λmT WQ hs=>?_
  replace hs:Heap.SameBut e h' mT:=hs
  have aL:At af m X P σ {s with heap:=mT,toks:=s.toks+1}:=T.ext (t:=s.toks+1) O λb o hb eb=>(hs.2 b (y9 hb).1).trans (hk b o (y9 hb).1 (y9 hb).2 eb)
  have bj:s.heap.objs.size∉[e,it]:=λhm=>Kp (R:=λa=>s.heap.objs.size≠a) (qC ⟨_,he⟩) (qC I.d_) _ hm rfl
  have Dh:mT.get? s.heap.objs.size=some (dE #[.int i s.toks,x'] 0):=(hs.2 _ λq=>bj (by rw[q];exact .head _)).trans hn
  have f:=(bM.fresh T) _ (.head _)
  have hP:=oR (dE #[.int i s.toks,x'] 0) f.2.2.1
  refine h _ _ _ hP (aL.qB f Dh) (.tup (iS ..) (.cons (.int _ _) (.cons (rx.mono hP) .nil))) (λc hc=>?_) (.mk cj WQ (I'.same hP (hs.2 _ cj.symm)))
  have o:=O c hc
  exact⟨o.1,o.2.1,(lw P _ (a:=s.heap.objs.size) (b:=c) λq=>bj (q▸hc)).trans o.2.2.1,o.2.2.2⟩
theorem Qg{fp:ae Addr}(hh:A.handled=none)(T:At af m X P σ s)(I:mt G.w.params P s.heap it fp L):bM af X P σ fp->L=[]->
  (∀P' s',P.le P'->At af m X P' σ s'->Q none s')->ai GM A (cR it) Q (λω ω=>False) s:=
 I.rec (motive:=λit fp L ω=>bM af X P σ fp->L=[]->(∀P' s',P.le P'->At af m X P' σ s'->Q none s')->ai GM A (cR it) Q (λω ω=>False) s) λ{e it i old l} cj he I O q h=>by
  have hl:l=[]:=by cases l with |nil=>rfl |cons x l=>exact nomatch q
  have hT:s.TypeIs (.ref e) "enumerate":=⟨_,he,rfl⟩
  unfold cR
  refine wb (lq (iM (name:=Str.ofString "__next__") hT PySem.F.slot_enumerate_next
   (dY PySem.F.slot_enumerate_next hT PySem.F.entry_enumerate_next ?_ (PySem.F.args_enumerate_next_1 _))))
  show ai _ _ (field (.ref e) 2>>=_) _ _ _
  refine wb (eE he rfl (x:= .ref it) rfl ?_)
  refine wb (Cc hh T.inv.p I hl λh' x tF i_=>i_.elim λo ho=>wb (t8 (T:="StopIteration") (b:=true) ⟨o,ho.1,ho.2⟩ FL ?_))
  exact aq (h P _ (PM.le.refl P) (T.ext (t:=s.toks) O λb o hb eb=>tF b o (y9 hb).2 eb))
theorem GJ:jn (.Tuple ts k tp) (mt G.w.params) where
 d_:=λI=>I.rec λcj he I=>Kp ⟨_,he⟩ I.d_
 same:=λ{P P' h h' it fp l} I hP=>I.rec (motive:=λit fp L ω=>(∀a∈fp,h'.get? a=h.get? a)->mt G.w.params P' h' it fp L) λcj he I q=> .mk cj ((q _ (.head _)).trans he) (I.same hP (q _ (.tail _ (.head _))))
 next:=λT O I kk h=>Qf T I O rfl kk h
 stop:=λhh T O I h=>Qg hh T I O rfl h
 again:=Pz
theorem Qh(T:At af m X P σ s){u:Value}(ra:RepV G.w.params P (.tup l) u){Q:Value->Shared->Prop}
  (k: ∀z fp s',At af m X P σ s'->bM af X P σ fp->mt G.w.params P s'.heap (.ref z) fp (sF 0 l)->Q (.ref z) s'):ai GM A (call (.type "enumerate") [u]) Q E s:=by
 have I:=T.inv
 cases ra with | @tup _ l1 u7 k1 h1 r1=>
 refine FZ PySem.F.called_enumerate (by decide) (PySem.F.typeCall_enumerate_1 _) (PySem.F.newCall_enumerate_1 _) (λobj=>PySem.F.args_object_init_2 obj _) PySem.F.entry_enumerate_new
  (Op l1 u7) ⟨⟨_,I.p _ _ h1,rfl,_,rfl⟩,?_⟩
 have hz:(s.heap.push (jP "tuple_iterator" l1)).objs.size=s.heap.objs.size+1:=Heap.size_push ..
 show _/\_
 rw[hz]
 refine gn ((s.heap.push (jP "tuple_iterator" l1)).push {cls:= .type "enumerate",data:= .fields #[.none,.bool false,.ref s.heap.objs.size,cz 0,.none,.none]}) λh' hH=>?_
 have he:qv h' (s.heap.objs.size+1) s.heap.objs.size 0 .none:=by
  rw[<- hH,<- hz];exact Heap.get?_push_size _ rfl
 have hi:h'.get? s.heap.objs.size=some (jP "tuple_iterator" l1):=by rw[<- hH];exact Heap.get?_push_of_some _ (Heap.get?_push_size _ rfl)
 have hk: ∀c o,s.heap.get? c=some o->h'.get? c=some o:=λc o e=>by rw[<- hH];exact Heap.get?_push_of_some _ (Heap.get?_push_of_some _ e)
 refine⟨⟨_,he,rfl⟩,k _ [s.heap.objs.size+1,s.heap.objs.size] _ (T.grow (t:=s.toks) hk) (λa ha=>bM.many T 0 a ?_) (.mk ?_ he ?_)⟩
 .simp only[aY,jf,or_false] at ha;unfold Addr at*;lia
 .unfold Addr at*;lia
 .have:=cA.tuple (p:=G.w.params) (P:=P) (h:=h') (i:=0) ⟨_,hi,rfl,rfl⟩ h1 r1;exact this
theorem w_enum{fe:Expr}{pos:Pos}{Q:ae AV->ah->Prop}
  (he: ∀af,eval (.Call fe args [] pos) af=(do qh pos (<- eval fe af) [] (jI pos (g_ args af)) (backToKw pos (F_ [] af))))
  (h:aQ n af fe m σ λa ap=>a= .raw (.type "enumerate")/\iG n af args m ap λl aO=> ∃l',l=[.tup l']/\Q (sF 0 l') aO):iy n af (.Tuple ts k tp) (.Call fe args [] pos) m σ Q:=by
 intro A X P s hA T
 refine Call_ (aC.with (h A X P s hA T) λv aH aR ap a aJ aL bF pq=>?_) (he af)
 obtain⟨e,aD⟩:=pq
 subst e;cases bF
 refine AT A af pos [] args _ _ aH aD.1 (gC.jZ aL.inv) (aC.with (aD.2 A X aR aH pos hA aL) λvs aV bA aO l bm ba b_ ⟨l',e,q⟩=>⟨gC.jZ ba.inv,?_⟩)
 subst e
 cases b_ using RepL.consE with |cons ra b_=>
 cases b_
 refine Qh ba ra λz fp eJ c8 iz y8=>?_
 refine(GJ (ts:=ts) (k:=k) (tp:=tp)).again y8 ?_
 exact⟨bA,aO,_,mt G.w.params,fp,GJ,aJ.trans bm,c8,iz,y8,q⟩
end
section
variable{n:Nat}{af:Env}{m:au}{X P:PM}{σ:ah}{s:Shared}{A:bo}{Q:AV->ah->Prop}
noncomputable def gN(a b:aj)(t u v:el):Obj:={cls:= .type "range",data:= .fields #[.int a t,.int b u,.int 1 v]}
def Tc(σ:ah)(a:AV)(lo hi:aj):Prop:= ∃r t u v,a= .raw (.ref r)/\σ r=some (.raw (gN lo hi t u v))
theorem uU{i:aj}(h: ∀r t u v,σ r=none->Q (.raw (.ref r)) (aA σ r (.raw (gN 0 i t u v)))):cK n (.type "range") [.int i] σ Q:=by
 intro A X P s vs hA I r
 cases r with |cons ra r=>
 cases r;cases ra with |int _ tk=>
 refine call_range_1 ?_
 have I':bD X P (aA σ s.heap.objs.size (.raw (gN 0 i s.toks tk (s.toks+1)))) {s with heap:=s.heap.push (gN 0 i s.toks tk (s.toks+1)),toks:=s.toks+1+1}:=I.alloc rfl (λa o e=>Heap.get?_push_of_some _ e) (Heap.get?_push_size _ rfl) (.raw _)
 exact⟨P,_,_,PM.le.refl P,I',.raw _,h _ _ _ _ I.fresh.1⟩
def yO(t:Expr)(a:AV)(σ:ah)(l:ae AV):Prop:= ∀af m A X P s v (Q:Value->Shared->Prop),At af m X P σ s->RepV G.w.params P a v->
 (∀iv fp Z s',jn t Z->At af m X P σ s'->bM af X P σ fp->Z P s'.heap iv fp l->Q iv s')->ai GM A (hW v) Q (λω ω=>False) s
inductive Yz(t:Expr)(Q:ae AV->ah->Prop)(a:AV)(ap:ah):Prop
 |mk (l:ae AV) (hs:yO t a ap l) (q:Q l ap)
theorem w_of{t it:Expr}{Q:ae AV->ah->Prop}(h:aQ n af it m σ (Yz t Q)):iy n af t it m σ Q:=by
 intro A X P s hA T
 refine aC.with (h A X P s hA T) λv aH aR ap a aJ aL bF pq=>?_
 obtain⟨l,hs,q⟩:=pq
 exact hs af m A X aR aH v _ aL bF λiv fp Z aV hZ ba gy nR=>⟨aR,ap,l,Z,fp,hZ,aJ,ba,gy,nR,q⟩
theorem uI{t:Expr}{lo hi:aj}(hr:Tc σ a lo hi)(h1: -1000000<=lo)(h2:lo<=hi)(h3:hi<=1000000):yO t a σ (jF lo (hi - lo).toNat):=by
 intro af m A X P s v Q T r h
 obtain⟨rr,t1,u1,v1,rfl,f_⟩:=hr
 cases r
 obtain⟨o,ho,ro⟩:=T.inv.st _ _ f_
 cases ro
 refine wpAny_pyIter_range (a:=lo) (b:=hi) (c:=1) (t:=t1) (u:=u1) (v:=v1) ho (small_one (by lia) (by lia) (by lia) (by lia)) ?_
 rw[rangeSize_one]
 have e:(if lo<hi then hi - lo else 0)=hi - lo:=by split<;>lia
 rw[e]
 exact h _ _ _ _ (Gk t) (T.grow (t:=s.toks) λa o e=>Heap.get?_push_of_some _ e) (bM.fresh T) (fQ.range (Heap.get?_push_size _ rfl))
noncomputable def mw:ae Nat->ae AV
 |[]=>[]
 |c::r=> .str ⟨#[c]⟩::mw r
def WR(p:bg)(P:PM)(h:Heap)(v:Value)(fp:ae Addr)(L:ae AV):Prop:=
 ∃(it:Addr) (x:Str) (t:el) (i:Nat),v= .ref it/\fp=[it]/\L=mw (x.cps.toList.drop i)/\h.IsStrIter it "str_ascii_iterator" x t i
theorem PA{r:ae AV}(e:a::r=mw (x.cps.toList.drop i)): ∃c,x.cps[i]? =some c/\a= .str ⟨#[c]⟩/\r=mw (x.cps.toList.drop (i+1)):=by
 cases h:x.cps.toList.drop i with
 |nil=>rw[h] at e;exact ax (show a::r=[] from e) (ae.cons_ne_nil _ _)
 |cons c t=>
  rw[h] at e
  have e:=eC (show a::r= .str ⟨#[c]⟩::mw t from e)
  obtain⟨e1,e2⟩:=lc h
  exact⟨c,by rw[<- dR];exact e1,e.1,by rw[e2];exact e.2⟩
theorem Qi(e:[]=mw (x.cps.toList.drop i)):x.cps[i]? =none:=by
 cases h:x.cps.toList.drop i with
 |nil=>rw[<- dR];exact qi h
 |cons c t=>rw[h] at e;exact ax (show[]=AV.str ⟨#[c]⟩::mw t from e).symm (ae.cons_ne_nil _ _)
theorem Rd(t:Expr):jn t (WR G.w.params) where
 d_:=λ{P h it fp l} I a ha=>by
  obtain⟨it,x,t,i,rfl,rfl,rfl,hi⟩:=I
  rw[aW] at ha;subst ha
  obtain⟨o,ho,_⟩:=hi;exact⟨o,ho⟩
 same:=λ{P P' h h' it fp l} I hP q=>by
  obtain⟨it,x,t,i,rfl,rfl,rfl,o,ho,z⟩:=I
  exact⟨it,x,t,i,rfl,rfl,rfl,o,(q it (by simp)).trans ho,z⟩
 next:=λ{af m X P σ s A it fp a r R Q} T O I kk h=>by
  obtain⟨it,x,tk,i,rfl,rfl,e,hi⟩:=I
  obtain⟨c,hc,rfl,rfl⟩:=PA e
  refine wpAny_pyNext_ascii_item hi hc λh' dT hs=>kk _ _ ?_
  have T':At af m X P σ {s with heap:=h',toks:=s.toks+1}:=T.ext (t:=s.toks+1) O λb o hb e=>(hs.2 b (λq=>hb (by rw[q];exact .head _))).trans e
  have fin:=h (.str ⟨#[c]⟩ s.toks) P _ (PM.le.refl P) T' (.str _ _) O ⟨it,x,tk,i+1,rfl,rfl,rfl,dT⟩
  exact(Jx _ _ _).elim (λe=>e▸aq fin) λe=>e▸aq fin
 stop:=λ{af m X P σ s A it fp Q} hh T O I h=>by
  obtain⟨it,x,tk,i,rfl,rfl,e,hi⟩:=I
  refine wpAny_pyNext_ascii_end hh hi (Qi e) λh' hs=>h P _ (PM.le.refl P) (T.ext (t:=s.toks) O λb o hb e=>hs b o (λq=>hb (by rw[q];exact .head _)) e)
 again:=λ{P s A it fp l Q} I h=>by
  obtain⟨it,x,tk,i,rfl,rfl,e,hi⟩:=I
  exact wpAny_pyIter_striter_ascii hi h
theorem IT{t:Expr}(ha:x.cps.all (· <128)=true):yO t (.str x) σ (mw x.cps.toList):=by
 intro af m A X P s v Q T r h
 cases r with |str _ tk=>
 refine wpAny_pyIter_ascii ha ?_
 exact h _ _ _ _ (Rd t) (T.grow (t:=s.toks) λa o e=>Heap.get?_push_of_some _ e) (bM.fresh T) ⟨_,x,tk,0,rfl,rfl,by simp,_,Heap.get?_push_size _ rfl,rfl,rfl⟩
end
section
open PySem.SetTable
theorem Cd{α:Type}[DecidableEq α]: ∀(l m:ae α),l.Nodup->(∀x∈l,x∈m)->l.length<=m.length
 |[],m,_,_=>Nat.zero_le _
 |a::l,m,hn,hs=>by
  have hn:=fF.mp hn
  have ha:=hs a (.head _)
  have h1:=Cd l (m.erase a) hn.2 λx hx=>(NC (a:=x) (b:=a) λe=>hn.1 (e▸hx)).mpr (hs x (.tail _ hx))
  rw[Ak ha] at h1
  exact Nat.le_trans (Nat.succ_le_succ h1) (Nat.le_of_eq (Nat.succ_pred_eq_of_pos (Al ha)))
theorem PB(l:ae Nat)(k:Nat)(h:l.length<k): ∃j,j<k/\j∉l:=
 Classical.byContradiction λhn=>Nat.not_lt.mpr (m_ (n:=k)▸Cd (c7 k) l xt λx hx=>Classical.byContradiction λh'=>hn ⟨x,gL.mp hx,h'⟩) h
theorem qp(xs:ay Nat)(h:i<xs.size):xs.getD i 0=xs[i]:=by
 rw[xi,pV h];rfl
theorem BO{xs:ay Nat}(hs:xs.toList.Pairwise (· < ·)){a b:Nat}(fS:a<b)(hb:b<xs.size):xs.getD a 0<xs.getD b 0:=by
 rw[qp xs hb,qp xs (Nat.lt_trans fS hb)]
 exact E8.mp hs a b (Nat.lt_trans fS hb) hb fS
theorem UB{lo hi:Nat}(h:lo<hi):lo<=(lo+hi)/2:=(Nat.le_div_iff_mul_le Nat.zero_lt_two).mpr (Nat.mul_two lo▸Nat.add_le_add_left (Nat.le_of_lt h) lo)
theorem UC{lo hi:Nat}(h:lo<hi):(lo+hi)/2<hi:=(Nat.div_lt_iff_lt_mul Nat.zero_lt_two).mpr (Nat.mul_two hi▸Nat.add_lt_add_right h hi)
structure Ce(xs:ay Nat)(j r:Nat):Prop where
 lo: ∀i,i<r->xs.getD i 0<j
 hi: ∀i,r<=i->i<xs.size->j<=xs.getD i 0
 le:r<=xs.size
theorem Re(xs:ay Nat)(j:Nat)(hs:xs.toList.Pairwise (· < ·))(fuel:Nat): ∀(lo hi:Nat),hi - lo<=fuel->lo<=hi->hi<=xs.size->(∀i,i<lo->xs.getD i 0<j)->(∀i,hi<=i->i<xs.size->j<=xs.getD i 0)->Ce xs j (below.go xs j fuel lo hi):=by
 induction fuel with
 |zero=>exactλlo hi hf hl hz h1 h2=>⟨h1,Nat.le_antisymm hl (Nat.le_of_sub_eq_zero (Nat.le_zero.mp hf))▸h2,Nat.le_trans hl hz⟩
 |succ fuel ih=>
  intro lo hi hf hl hz h1 h2
  show Ce xs j (if lo<hi then if xs.getD ((lo+hi)/2) j<j then below.go xs j fuel ((lo+hi)/2+1) hi else below.go xs j fuel lo ((lo+hi)/2) else lo)
  by_cases bj:lo<hi
  .have a1:=UB bj
   have a2:=UC bj
   rw[if_pos bj]
   generalize (lo+hi)/2=m at a1 a2
   have mz:=Nat.lt_of_lt_of_le a2 hz
   rw[show xs.getD m j=xs.getD m 0 from(xi ..).trans (by rewrite [pV mz,qp xs mz];rfl)]
   by_cases hc:xs.getD m 0<j
   .rw[if_pos hc]
    exact ih _ _ (Nat.le_trans (Nat.sub_le_sub_left (Nat.succ_le_succ a1) hi) (Nat.pred_le_pred hf)) a2 hz (λi dT=>(Nat.lt_or_eq_of_le (Nat.le_of_lt_succ dT)).elim (λh=>Nat.lt_trans (BO hs h mz) hc) λe=>e▸hc) h2
   .rw[aK hc]
    exact ih _ _ (Nat.le_of_lt_succ (Nat.lt_of_lt_of_le (Nat.sub_lt_sub_right a1 a2) hf)) a1 (Nat.le_of_lt mz) h1 λi dT fx=>(Nat.lt_or_eq_of_le dT).elim (λh=>Nat.le_trans (Nat.le_of_not_lt hc) (Nat.le_of_lt (BO hs h fx))) λe=>e▸Nat.le_of_not_lt hc
  .rw[aK bj]
   exact⟨h1,Nat.le_antisymm hl (Nat.le_of_not_lt bj)▸h2,Nat.le_trans hl hz⟩
theorem x4(xs:ay Nat)(j:Nat)(hs:xs.toList.Pairwise (· < ·)):Ce xs j (below xs j):=
 Re xs j hs xs.size 0 xs.size (Nat.sub_le _ _) (Nat.zero_le _) (Nat.le_refl _) (λi h=>ax h (Nat.not_lt_zero _)) λi h h'=>ax h' (Nat.not_lt.mpr h)
theorem eN.has{t:SetTable}(H:eN t n)(j:Nat):SetTable.has t.dummies j=false:=by
 rw[H.zj];rfl
theorem PC{t:SetTable}(H:eN t n)(j:Nat):(t.slot j= .live (below t.place j)/\t.place[below t.place j]? =some j)\/(t.slot j= .empty/\j∉t.place.toList):=by
 by_cases q:t.place[below t.place j]? =some j
 .exact .inl ⟨if_pos (qa.mpr q),q⟩
 .refine .inr ⟨(aK λh=>q (qa.mp h)).trans (aK λh=>Bool.false_ne_true ((H.has j).symm.trans h)),λhm=>?_⟩
  obtain⟨i,hi⟩:=Fg.mp hm
  have b:=x4 t.place j H.sorted
  obtain⟨hz,e⟩:=cV.mp hi
  have hv:t.place.getD i 0=j:=(qp t.place hz).trans e
  have le:below t.place j<=i:=Nat.le_of_not_lt λh=>Nat.lt_irrefl _ (hv▸b.lo i h)
  refine(Nat.lt_or_eq_of_le le).elim (λh=>?_) λe=>q (e▸dR.symm.trans hi)
  have m:=BO H.sorted h hz
  rw[hv] at m
  exact Nat.lt_irrefl _ (Nat.lt_of_le_of_lt (b.hi _ (Nat.le_refl _) (Nat.lt_trans h hz)) m)
noncomputable def wD(mask i:Nat):Nat:=(i*5+1)%(mask+1)
noncomputable def lI(mask:Nat):Nat->Nat->Nat
 |0,i=>i
 |k+1,i=>lI mask k (wD mask i)
theorem x5(mask:Nat): ∀(a b i:Nat),lI mask (a+b) i=lI mask b (lI mask a i)
 |0,b,i=>congrArg (lI mask · i) (Nat.zero_add b)
 |a+1,b,i=>(congrArg (lI mask · i) (Nat.succ_add a b)).trans (x5 mask a b _)
noncomputable def CN(mask:Nat):Nat->Nat->ae Nat
 |0,_=>[]
 |k+1,i=>i::CN mask k (wD mask i)
theorem GK(mask:Nat): ∀(k i b:Nat),b∈CN mask k i-> ∃j,j<k/\lI mask j i=b
 |k+1,i,b,h=>(aY.mp h).elim (λe=>⟨0,Nat.succ_pos k,e.symm⟩) λh=>(GK mask k _ b h).elim λj q=>⟨j+1,Nat.succ_lt_succ q.1,q.2⟩
theorem Qj(h:mask=7\/mask=31\/mask=127):(c7 (mask+1)).all (λb=>(CN mask (mask+1) 0).contains b)=true/\lI mask (mask+1) 0=0:=by
 rcases h with rfl |rfl |rfl
 .decide+kernel
 .decide+kernel
 .decide+kernel
theorem PD(hm:mask=7\/mask=31\/mask=127){a b:Nat}(ha:a<=mask)(hb:b<=mask): ∃k,k<=mask/\lI mask k a=b:=by
 obtain⟨h1,h2⟩:=Qj hm
 have key: ∀c,c<=mask-> ∃j,j<mask+1/\lI mask j 0=c:=λc hc=>GK mask _ _ _ (Nw.mp (ox.mp h1 c (gL.mpr (Nat.lt_succ_of_le hc))))
 obtain⟨u,hu,eu⟩:=key a ha
 obtain⟨v,hv,ev⟩:=key b hb
 by_cases h:u<=v
 .exact⟨v - u,Nat.le_trans (Nat.sub_le v u) (Nat.le_of_lt_succ hv),by rw[<- eu,<- x5,Nat.add_sub_of_le h,ev]⟩
 .refine⟨v+(mask+1) - u,Nat.sub_le_of_le_add ?_,?_⟩
  .rw[Nat.add_comm mask u,<- Nat.add_assoc,Nat.add_right_comm];exact Nat.add_le_add_right (Nat.lt_of_not_le h) mask
  .rw[<- eu,<- x5,Nat.add_sub_of_le (Nat.le_trans (Nat.le_of_lt hu) (Nat.le_add_left _ _)),Nat.add_comm v,x5,h2,ev]
noncomputable def ie(mask:Nat):Nat->Nat×Nat->Nat×Nat
 |0,p=>p
 |k+1,p=>ie mask k (leap mask p.1 p.2)
theorem GL(mask:Nat): ∀(a b:Nat) (p:Nat×Nat),ie mask (a+b) p=ie mask b (ie mask a p)
 |0,b,i=>congrArg (ie mask · i) (Nat.zero_add b)
 |a+1,b,i=>(congrArg (ie mask · i) (Nat.succ_add a b)).trans (GL mask a b _)
theorem Gn(mask:Nat): ∀(k i:Nat),ie mask k (i,0)=(lI mask k i,0)
 |0,i=>rfl
 |k+1,i=>(congrArg (ie mask k) (show leap mask i 0=(wD mask i,0) by unfold leap wD;rewrite [Nat.zero_div];rfl)).trans (Gn mask k (wD mask i))
theorem Gc(mask:Nat): ∀(k i q:Nat),q<32^k->(ie mask k (i,q)).2=0
 |0,i,q,h=>Nat.lt_one_iff.mp h
 |k+1,i,q,h=>Gc mask k _ _ (Nat.div_lt_of_lt_mul (Nat.mul_comm (32^k) 32▸h))
theorem BP(mask i q:Nat):(leap mask i q).1<=mask:=Nat.le_of_lt_succ (Nat.mod_lt _ (Nat.succ_pos _))
theorem Hb(mask:Nat): ∀(k:Nat) (p:Nat×Nat),p.1<=mask->(ie mask k p).1<=mask
 |0,p,h=>h
 |k+1,p,h=>Hb mask k _ (BP mask _ _)
theorem Gd(hm:mask=7\/mask=31\/mask=127){q:Nat}(hi:i<=mask)(hq:q<2^64)(hj:j<=mask): ∃k,k<mask+14/\(ie mask (k+1) (i,q)).1=j:=by
 have h0:(ie mask 13 (i,q)).2=0:=Gc mask 13 i q (Nat.lt_of_lt_of_le hq (by decide))
 obtain⟨k,hk,e⟩:=PD hm (a:=(ie mask 13 (i,q)).1) (Hb mask 13 (i,q) hi) hj
 refine⟨12+k,Nat.lt_of_le_of_lt (Nat.add_le_add_left hk 12) (Nat.add_comm mask 12▸Nat.add_lt_add_left (by decide:12<14) mask),?_⟩
 have:ie mask 13 (i,q)=((ie mask 13 (i,q)).1,0):=congrArg (Prod.mk _) h0
 rw[Nat.add_right_comm 12 k 1,GL,this,Gn,e]
structure jc(t:SetTable)(p:Probe):Prop where
 j:p.j+p.more<=t.mask
 i:p.i<=t.mask
 more:p.more<=9
 q:p.perturb<2^64
 d:p.dummy=none
theorem uV(mask i:Nat)(h:i<=mask):i<=runEnd mask i/\runEnd mask i<=mask/\runEnd mask i - i<=9:=by
 unfold runEnd
 by_cases q:i+9<=mask
 .rw[if_pos q];exact⟨Nat.le_add_right _ _,q,Nat.le_of_eq (Nat.add_sub_cancel_left i 9)⟩
 .rw[aK q];exact⟨Nat.le_refl _,h,Nat.sub_self i▸Nat.zero_le _⟩
theorem IU(h:i<=mask):i+(runEnd mask i - i)<=mask:=(Nat.add_sub_of_le (uV mask i h).1).symm▸(uV mask i h).2.1
theorem H2(h:aj):bits h<2^64:=by unfold bits;lia
theorem jc.start{t:SetTable}(h:aj):jc t (t.probeStart h):=
 have hi:bits h%(t.mask+1)<=t.mask:=Nat.le_of_lt_succ (Nat.mod_lt _ (Nat.succ_pos _))
 ⟨IU hi,hi,(uV t.mask _ hi).2.2,H2 h,rfl⟩
theorem H3{t:SetTable}{p:Probe}(h:p.more>0):t.advance p={p with j:=p.j+1,more:=p.more - 1}:=if_pos h
theorem H4{t:SetTable}{p:Probe}(h: ¬p.more>0):t.advance p={p with j:=(leap t.mask p.i p.perturb).1,more:=runEnd t.mask (leap t.mask p.i p.perturb).1 - (leap t.mask p.i p.perturb).1,i:=(leap t.mask p.i p.perturb).1,perturb:=p.perturb/32}:=aK h
theorem jc.advance{t:SetTable}{p:Probe}(H:jc t p):jc t (t.advance p):=by
 by_cases hm:p.more>0
 .rw[H3 hm]
  exact⟨Nat.le_trans (Nat.le_of_eq (by rewrite [Nat.add_assoc,Nat.add_comm 1,Nat.sub_add_cancel hm];rfl)) H.j,H.i,Nat.le_trans (Nat.sub_le _ _) H.more,H.q,H.d⟩
 .have hi:=BP t.mask p.i p.perturb
  rw[H4 hm]
  exact⟨IU hi,hi,(uV t.mask _ hi).2.2,Nat.lt_of_le_of_lt (Nat.div_le_self _ _) H.q,H.d⟩
inductive mE(t:SetTable)(js:Nat)(p:Probe)(M:Nat):Prop
 |here (e:p.j=js) (m:1<=M)
 |bO (k:Nat) (hr:(ie t.mask (k+1) (p.i,p.perturb)).1=js) (hf:p.more+2+10*k<=M)
theorem mE.pos{t:SetTable}{p:Probe}(h:mE t js p M):1<=M:=by
 cases h with
 |here _ m=>exact m
 |bO k _ hf=>exact Nat.le_trans (Nat.le_trans (Nat.le_add_left 1 (p.more+1)) (Nat.le_add_right _ _)) hf
theorem Rf{m:Nat}(hm:m>0)(h:m+2+k<=M+1):m - 1+2+k<=M:=by
 cases m with
 |zero=>exact ax hm (Nat.lt_irrefl 0)
 |succ m=>rw[Nat.add_right_comm m 1 2,Nat.add_right_comm _ 1 k] at h;exact Nat.le_of_succ_le_succ h
theorem mE.advance{t:SetTable}{js M:Nat}{p:Probe}(hp:jc t p)(h:mE t js p (M+1))(cj:p.j≠js):mE t js (t.advance p) M:=by
 cases h with
 |here e _=>exact ax e cj
 |bO k hr hf=>
  by_cases hm:p.more>0
  .rw[H3 hm];exact .bO k hr (Rf hm hf)
  .have ha:=hp.advance.more
   rw[H4 hm] at ha ⊢
   cases k with
   |zero=>exact .here hr (Nat.le_trans (Nat.le_add_left 1 p.more) (Nat.le_of_succ_le_succ hf))
   |succ k=>exact .bO k hr (Nat.le_of_succ_le_succ (Nat.le_trans (Nat.succ_le_succ (Nat.add_le_add_right (Nat.add_le_add_right ha 2) (10*k))) (Nat.le_trans (by lia) hf)))
noncomputable def vt(t:SetTable)(hashAt:Nat->aj)(h:aj)(js M:Nat):Met->Prop
 | .empty j d=>j∉t.place.toList/\j<=t.mask/\d=none
 | .candidate j i next=>t.place[i]? =some j/\t.slot j= .live i/\hashAt i=h/\jc t next/\ ∃M',M'<M/\mE t js next M'
theorem vt.less{t:SetTable}{hashAt:Nat->aj}{h:aj}{met:Met}(k:vt t hashAt h js M met):vt t hashAt h js (M+1) met:=by
 cases met with
 |empty=>exact k
 |candidate j i next=>exact⟨k.1,k.2.1,k.2.2.1,k.2.2.2.1,k.2.2.2.2.imp λω q=>⟨Nat.lt_succ_of_lt q.1,q.2⟩⟩
theorem Rg{t:SetTable}(H:eN t n)(hashAt:Nat->aj)(h:aj)(rm:js∉t.place.toList)(fuel:Nat): ∀(M:Nat) (p:Probe),jc t p->mE t js p M->M<=fuel->
  ∃met,probe.go t hashAt h fuel p=some met/\vt t hashAt h js M met:=by
 induction fuel with
 |zero=>exactλM p hp hd hf=>ax (Nat.le_trans hd.pos hf) (Nat.not_succ_le_zero 0)
 |succ fuel ih=>
  intro M p hp hd hf
  show ∃met,(match t.slot p.j with | .empty=>some (.empty p.j p.dummy) | .dummy=>probe.go t hashAt h fuel (t.advance {p with dummy:=some p.j}) | .live i=>if hashAt i==h then some (.candidate p.j i (t.advance p)) else probe.go t hashAt h fuel (t.advance p))=some met/\_
  rcases PC H p.j with⟨hs,hi⟩ |⟨hs,hn⟩
  .rw[hs]
   cases M with
   |zero=>exact ax hd.pos (Nat.not_succ_le_zero 0)
   |succ M=>
   have iH:=hd.advance hp λq=>rm (q▸cO (dR.trans hi))
   dsimp only
   by_cases hh:(hashAt (below t.place p.j)==h)=true
   .rw[if_pos hh]
    exact⟨_,rfl,hi,hs,lZ hh,hp.advance,M,Nat.lt_succ_self M,iH⟩
   .rw[aK hh]
    exact(ih M _ hp.advance iH (Nat.le_of_succ_le_succ hf)).imp λω q=>⟨q.1,q.2.less⟩
  .rw[hs]
   exact⟨_,rfl,hn,Nat.le_trans (Nat.le_add_right _ _) hp.j,hp.d⟩
theorem Go{t:SetTable}(H:eN t n)(hj:js<=t.mask)(p:Probe)(hp:jc t p):mE t js p (10*turns t.mask):=by
 obtain⟨k,hk,hr⟩:=Gd H.mask (i:=p.i) (q:=p.perturb) (j:=js) hp.i hp.q hj
 exact .bO k hr (Nat.le_trans (Nat.add_le_add (Nat.add_le_add_right hp.more 2) (Nat.mul_le_mul_left 10 (Nat.le_of_lt_succ hk))) (Nat.add_comm (10*(t.mask+13)) 11▸Nat.add_le_add_left (by decide:11<=20) (10*(t.mask+13))))
theorem Gp{t:SetTable}(H:eN t n)(rm:js∉t.place.toList)(hashAt:Nat->aj)(h:aj)(p:Probe)(hp:jc t p)(hd:mE t js p M)(hM:M<=10*turns t.mask): ∃met,t.probe hashAt h p=some met/\vt t hashAt h js M met:=
 Rg H hashAt h rm _ M p hp hd hM
end
section
open PySem.SetTable
theorem FS(xs:ay α)(p:Nat)(x:α):(insertAt xs p x).toList=xs.toList.take p++x::xs.toList.drop p:=by
 unfold insertAt
 simp[ay.toList_extract,ae.extract_eq_take_drop,rO]
theorem AC(xs:ay α)(p:Nat)(x:α):(insertAt xs p x).toList.Perm (x::xs.toList):=by
 rw[FS]
 refine ae.perm_middle.trans (.cons _ ?_)
 rw[Ff]
theorem FW(xs:ay α)(p:Nat)(x:α):(insertAt xs p x).size=xs.size+1:=
 ck.symm.trans ((AC xs p x).length_eq.trans (congrArg Nat.succ ck))
theorem UD{t:SetTable}(H:eN t n)(hj:j∉t.place.toList)(hm:j<=t.mask):eN (t.put j).1 (n+1)/\(t.put j).1.mask=t.mask/\(t.put j).1.led=t.led:=by
 have e:(t.put j).1={t with place:=insertAt t.place (below t.place j) j}:=congrArg (λd=>{t with place:=insertAt t.place (below t.place j) j,dummies:=d}) (aK λh=>Bool.false_ne_true ((H.has j).symm.trans h))
 rw[e]
 have b:=x4 t.place j H.sorted
 have lo: ∀x∈t.place.toList.take (below t.place j),x<j:=λx hx=>by
  obtain⟨i,hi,rfl⟩:=ae.mem_take_iff_getElem.mp hx
  have hi:=Nat.lt_min.mp hi
  exact qp t.place hi.2▸b.lo i hi.1
 have up: ∀x∈t.place.toList.drop (below t.place j),j<x:=λx hx=>by
  obtain⟨i,hi,rfl⟩:=ae.mem_drop_iff_getElem.mp hx
  have hi:below t.place j+i<t.place.size:=Nat.add_comm i _▸hi
  exact Nat.lt_of_le_of_ne (qp t.place hi▸b.hi _ (Nat.le_add_right _ _) hi) λq=>hj (q▸gK (l:=t.place.toList) hi)
 refine⟨⟨(FW ..).trans (congrArg Nat.succ H.size),H.zj,?_,λk hk=>?_,H.mask⟩,rfl,rfl⟩
 .dsimp only
  rw[FS]
  exact ae.pairwise_append.mpr ⟨H.sorted.sublist (ae.take_sublist _ _),NS.mpr ⟨up,H.sorted.sublist (ae.drop_sublist _ _)⟩,λx hx y hy=>(aY.mp hy).elim (λe=>e▸lo x hx) λhy=>Nat.lt_trans (lo x hx) (up y hy)⟩
 .exact(aY.mp ((AC t.place (below t.place j) j).mem_iff.mp hk)).elim (λe=>e▸hm) (H.inside k)
theorem Qk(rm:owner.getD js (some 0)=none)(fuel:Nat): ∀(k i q:Nat),i<=mask->(ie mask k (i,q)).1=js->k+1<=fuel->
  ∃j,layClean.free mask owner fuel i q=some j/\owner.getD j (some 0)=none:=by
 induction fuel with
 |zero=>exactλk i q hi hr hf=>ax hf (Nat.not_succ_le_zero k)
 |succ fuel ih=>
  intro k i q hi hr hf
  show ∃j,(match(c7 (runEnd mask i+1 - i)).find? λk=>(owner.getD (i+k) (some 0)).isNone with |some k=>some (i+k) |none=>layClean.free mask owner fuel (leap mask i q).1 (leap mask i q).2)=some j/\_
  cases kR:(c7 (runEnd mask i+1 - i)).find? λk=>(owner.getD (i+k) (some 0)).isNone with
  |some d=>exact⟨i+d,rfl,MZ.mp (ae.find?_some (p:=λk=>(owner.getD (i+k) (some 0)).isNone) kR)⟩
  |none=>
   cases k with
   |zero=>exact ax (MZ.mpr (show owner.getD i (some 0)=none from(show js=i from hr.symm)▸rm)) (NW.mp kR 0 (gL.mpr (Nat.sub_pos_of_lt (Nat.lt_succ_of_le (uV mask i hi).1))))
   |succ k=>exact ih k _ _ (BP mask i q) hr (Nat.le_of_succ_le_succ hf)
structure lQ(mask:Nat)(owner:ay (aB Nat))(k:Nat):Prop where
 size:owner.size=mask+1
 lt: ∀(j c:Nat),owner[j]? =some (some c)->c<k
 inj: ∀(i j c:Nat),owner[i]? =some (some c)->owner[j]? =some (some c)->i=j
 all: ∀c:Nat,c<k-> ∃j:Nat,owner[j]? =some (some c)
theorem Rh{o:ay (aB Nat)}(h:o.getD j (some 0)=none):o[j]? =some none:=by
 rw[xi] at h
 cases q:o[j]? with
 |none=>rw[q] at h;cases h
 |some x=>rw[q] at h;exact congrArg some h
theorem lQ.free(L:lQ mask owner k)(hk:k<=mask): ∃js,js<=mask/\owner.getD js (some 0)=none:=Classical.byContradiction λhn=>by
 have hf: ∀j,j<mask+1->owner[j]? =some (some ((owner[j]?.getD none).getD 0)):=λj hj=>by
  have hz:j<owner.size:=L.size▸hj
  rw[pV hz]
  cases h:owner[j] with
  |none=>exact ax ⟨j,Nat.le_of_lt_succ hj,by rw[xi,pV hz,h];rfl⟩ hn
  |some c=>rfl
 have:=Cd ((c7 (mask+1)).map λj=>(owner[j]?.getD none).getD 0) (c7 k)
  (NY.mpr (xt.imp_of_mem λ{a b} ha hb cj q=>cj (L.inj a b _ (hf a (gL.mp ha)) ((hf b (gL.mp hb)).trans (congrArg (λx=>some (some x)) q.symm))))) λx hx=>by
   obtain⟨j,hj,e⟩:=aU.mp hx
   exact gL.mpr (e▸L.lt j _ (hf j (gL.mp hj)))
 rw[ar,m_,m_] at this
 exact Nat.not_succ_le_self k (Nat.le_trans (Nat.succ_le_succ hk) this)
theorem Cf{o:ay (aB Nat)}{c:Nat}(h:(o.setIfInBounds j (some k))[i]? =some (some c)):(i=j/\c=k)\/(i≠j/\o[i]? =some (some c)):=by
 by_cases e:j=i
 .rw[<- e,MS] at h
  by_cases z:j<o.size
  .rw[if_pos z] at h;exact .inl ⟨e.symm,(aB.some.inj (aB.some.inj h)).symm⟩
  .rw[aK z] at h;cases h
 .exact .inr ⟨λq=>e q.symm,(MU e).symm.trans h⟩
theorem lQ.set(L:lQ mask owner k)(hj:owner.getD j (some 0)=none):lQ mask (owner.setIfInBounds j (some k)) (k+1):=by
 have hv:=Rh hj
 have hz:=(tY.mp hv).1
 refine⟨ay.size_setIfInBounds.trans L.size,λi c h=>?_,λa b c h1 h2=>?_,λc hc=>?_⟩
 .exact(Cf h).elim (λq=>q.2▸Nat.lt_succ_self k) λq=>Nat.lt_succ_of_lt (L.lt i c q.2)
 .rcases Cf h1 with q |q<;>rcases Cf h2 with r |r
  .exact q.1.trans r.1.symm
  .exact ax (L.lt b c r.2) (q.2▸Nat.lt_irrefl _)
  .exact ax (L.lt a c q.2) (r.2▸Nat.lt_irrefl _)
  .exact L.inj a b c q.2 r.2
 .refine(Nat.lt_or_eq_of_le (Nat.le_of_lt_succ hc)).elim (λh=>?_) λe=>⟨j,e▸MS.trans (if_pos hz)⟩
  obtain⟨i,hi⟩:=L.all c h
  exact⟨i,(MU λq=>nomatch aB.some.inj (hv.symm.trans ((congrArg (owner[·]?) q).trans hi))).trans hi⟩
noncomputable def vV(mask:Nat):{f:aB (ay (aB Nat)×Nat)->aj->aB (ay (aB Nat)×Nat)// ∀hs:ay aj,layClean mask hs=(hs.foldl f (some (FE (mask+1) none,0))).map (·.1)}:=⟨_,λω=>rfl⟩
theorem Ri{h:aj}(e:layClean.free mask owner (turns mask) (bits h%(mask+1)) (bits h)=some j):(vV mask).1 (some (owner,k)) h=some (owner.setIfInBounds j (some k),k+1):=by
 show(layClean.free mask owner (turns mask) (bits h%(mask+1)) (bits h)>>=_)=_
 rw[e];rfl
theorem Hd{mask:Nat}(hm:mask=7\/mask=31\/mask=127): ∀(hs:ae aj) (owner:ay (aB Nat)) (k:Nat),lQ mask owner k->k+hs.length<=mask->
  ∃o',hs.foldl (vV mask).1 (some (owner,k))=some (o',k+hs.length)/\lQ mask o' (k+hs.length)
 |[],owner,k,L,hk=>⟨owner,rfl,L⟩
 |h::hs,owner,k,L,hk=>by
  obtain⟨js,h1,h2⟩:=L.free (Nat.le_trans (Nat.le_add_right _ _) hk)
  have hi:bits h%(mask+1)<=mask:=Nat.le_of_lt_succ (Nat.mod_lt _ (Nat.succ_pos _))
  obtain⟨r,YA,YB⟩:=Gd hm hi (H2 h) h1
  obtain⟨j,rp,zz⟩:=Qk h2 (turns mask) (r+1) _ _ hi YB (Nat.succ_le_succ YA)
  show ∃o',hs.foldl (vV mask).1 ((vV mask).1 (some (owner,k)) h)=some (o',k+hs.length+1)/\lQ mask o' (k+hs.length+1)
  rw[Ri rp,Nat.add_right_comm k _ 1]
  exact Hd hm hs _ _ (L.set zz) (Nat.add_right_comm k 1 _▸hk)
theorem lQ.start(mask:Nat):lQ mask (FE (mask+1) none) 0:=by
 have n: ∀{j c:Nat},(FE (mask+1) (none:aB Nat))[j]? ≠some (some c):=λ{j c} h=>by
  rw[ay.getElem?_replicate] at h
  by_cases q:j<mask+1
  .rw[if_pos q] at h;cases h
  .rw[aK q] at h;cases h
 exact⟨ay.size_replicate,λj c h=>ax h n,λi j c h=>ax h n,λc hc=>ax hc (Nat.not_lt_zero c)⟩
theorem Cg{α:Type}{f:α->aB α}(hf: ∀a b,f a=some b->b=a): ∀l:ae α,(l.filterMap f).Sublist l
 |[]=> .slnil
 |a::l=>by
  rw[rP]
  cases h:f a with
  |none=>exact .cons a (Cg hf l)
  |some b=>exact hf a b h▸ .cons_cons b (Cg hf l)
theorem Td(hm:mask=7\/mask=31\/mask=127)(finger moves:Nat)(led plain:Bool)(hs:ay aj)(hk:hs.size<=mask):
  ∃t order,laid mask finger moves led plain hs=some (t,order)/\eN t hs.size/\t.led=led/\t.mask=mask/\order.toList.Perm (c7 hs.size):=by
 obtain⟨o,ho,L⟩:=Hd hm hs.toList _ 0 (lQ.start mask) ((Nat.zero_add _).symm▸hk)
 rw[Nat.zero_add,ck] at ho L
 have YC:layClean mask hs=some o:=by
  rw[(vV mask).2,<- ay.foldl_toList,ho]
  rfl
 unfold laid
 rw[YC]
 have hv: ∀{j c:Nat},o.getD j none=some c↔o[j]? =some (some c):=λ{j c}=>by
  rw[xi]
  cases h:o[j]? with
  |none=>exact⟨nofun,nofun⟩
  |some x=>exact⟨congrArg some,aB.some.inj⟩
 have h1:(((c7 (mask+1)).filterMap λj=>(o.getD j none).map (j,·)).map (·.1)).Sublist (c7 (mask+1)):=by
  rw[NM]
  exact Cg (λa b h=>by
   cases q:o.getD a none with
   |none=>rw[q] at h;cases h
   |some c=>rw[q] at h;exact(aB.some.inj h).symm) _
 have h2:(((c7 (mask+1)).filterMap λj=>(o.getD j none).map (j,·)).map (·.2))=(c7 (mask+1)).filterMap λj=>o.getD j none:=by
  rw[NM]
  exact congrArg (FN · _) (funext λj=>by cases o.getD j none<;>rfl)
 have fM:((c7 (mask+1)).filterMap λj=>o.getD j none).Perm (c7 hs.size):=by
  refine(ae.perm_ext_iff_of_nodup (OU.filterMap (R:=(· ≠ ·)) (S:=(· ≠ ·)) _ (λa b cj c h c' h' q=>cj (L.inj a b c (hv.mp h) (hv.mp (q▸h')))) xt) xt).mpr λc=>?_
  rw[ae.mem_filterMap,gL]
  refine⟨λ⟨j,_,hj⟩=>L.lt j c (hv.mp hj),λhc=>?_⟩
  obtain⟨j,hj⟩:=L.all c hc
  exact⟨j,gL.mpr (L.size▸(tY.mp hj).1),hv.mpr hj⟩
 refine⟨_,_,rfl,⟨?_,rfl,ae.pairwise_lt_range.sublist h1,λj hj=>Nat.le_of_lt_succ (gL.mp (h1.subset hj)),hm⟩,rfl,rfl,h2▸fM⟩
 exact(ar _).trans ((ar xR).symm.trans ((congrArg xH h2).trans (fM.length_eq.trans m_)))
end
section
open PySem.SetTable (Met Probe)
noncomputable def ly:Bool:=G.w.params.followText "set-order"
abbrev fy(es:ay (aj×Value))(t:SetTable):Prop:=Ke G.w.params es t
def iJ(P:PM)(h:Heap)(d:Addr)(l:ae AV):Prop:=
 ∃es ep t,h.get? d=some (eS es ep t)/\fy es t/\RepL G.w.params P l (es.toList.map (·.2))/\ ∀a∈l,aM 4 a
theorem eN.fill{t:SetTable}{n:Nat}(H:eN t n):t.fill=n:=by unfold SetTable.fill;rw[H.size,H.zj];simp
theorem eN.le{t:SetTable}(H:eN t n)(h:n*5<t.mask*3):n<=t.mask:=by lia
theorem eN.fits{t:SetTable}{n:Nat}(H:eN t n)(h:n<=t.mask):t.fits n=true:=by
 unfold SetTable.fits;rw[H.size,H.fill];simp[h]
theorem eN.odd{t:SetTable}(H:eN t n):t.gaveWay=false:=by
 unfold SetTable.gaveWay;rcases H.mask with h |h |h<;>rw[h]<;>rfl
theorem Ql{t:SetTable}(H:eN t (n+1))(hr:n*5<t.mask*3)(hn:n<60)(hf:t.tooFull=true): ∃m',SetTable.sizeAbove (SetTable.grown (n+1))=m'+1/\(m'=7\/m'=31\/m'=127)/\(n+1)*5<m'*3:=by
 unfold SetTable.tooFull at hf
 rw[H.fill] at hf
 simp only[ge_iff_le,N3] at hf
 rcases H.mask with h |h |h
 .rw[h] at hr hf
  have:n=4:=by lia
  subst this
  exact⟨31,by decide+kernel,.inr (.inl rfl),by lia⟩
 .rw[h] at hr hf
  have:n=18:=by lia
  subst this
  exact⟨127,by decide+kernel,.inr (.inr rfl),by lia⟩
 .rw[h] at hr hf
  lia
theorem Rj{t:SetTable}(H:eN t (n+1))(hf:t.tooFull=false):(n+1)*5<t.mask*3:=by
 unfold SetTable.tooFull at hf
 rw[H.fill] at hf
 simpa using hf
theorem FQ(es:ay α){order:ae Nat}(hp:order.Perm (c7 es.size)):(order.filterMap (es[·]?)).Perm es.toList:=by
 refine(hp.filterMap _).trans (.of_eq ?_)
 apply N1
 intro i
 obtain⟨l⟩:=es
 have key: ∀l:ae α,(c7 l.length).filterMap (λj=>l[j]?)=l:=λl=>by
  induction l with
  |nil=>rfl
  |cons a l ih=>
   rw[gh,ae.range_succ_eq_map,rP,NK]
   simp only[ae.getElem?_cons_zero,Z5,true_and]
   exact ih
 have:=key l
 simp only[rS,Fi]
 rw[this]
theorem Qm{t:SetTable}{m':Nat}(H:eN t es.size)(hw:SetTable.sizeAbove (SetTable.grown es.size)=m'+1)(hm:m'=7\/m'=31\/m'=127)(hr:es.size*5<m'*3):
  ∃t' order,t.relaid (es.map (·.1)) (SetTable.grown es.size)=some (t',order)/\eN t' es.size/\t'.led=t.led/\t'.mask=m'/\(order.filterMap (es[·]?)).toList.Perm es.toList/\order.toList.Perm (c7 es.size):=by
 obtain⟨t',order,e1,e2,e3,e4,e5⟩:=Td hm t.finger (t.movedTo m') t.led t.plain (es.map (·.1)) (by rw[AH];lia)
 rw[AH] at e2 e5
 refine⟨t',order,?_,e2,e3,e4,?_,e5⟩
 .unfold SetTable.relaid
  rw[hw]
  exact e1
 .rw[ay.toList_filterMap]
  exact FQ es e5
theorem RepL.perm{P:PM}: ∀{vs us:ae Value},vs.Perm us-> ∀{l:ae AV},RepL p P l vs-> ∃l',RepL p P l' us/\l'.Perm l:=by
 intro vs us h
 induction h with
 |nil=>intro l r;exact⟨l,r,.refl _⟩
 |cons x _ ih=>
  intro l r
  cases r with |cons r1 r=>
  obtain⟨l',h1,h2⟩:=ih r
  exact⟨_,.cons r1 h1,.cons _ h2⟩
 |swap x y l0=>
  intro l r
  cases r with |cons r1 r=>
  cases r with |cons r2 r=>
  exact⟨_,.cons r2 (.cons r1 r),.swap _ _ _⟩
 |trans _ _ YD DY=>
  intro l r
  obtain⟨l',h1,h2⟩:=YD r
  obtain⟨YE,h3,h4⟩:=DY h1
  exact⟨YE,h3,h4.trans h2⟩
section
variable{P:PM}{s:Shared}{A:bo}{E:Value->Shared->Prop}
theorem sc{d:Addr}{t:SetTable}{n:Nat}(ho:s.heap.get? d=some (eS es ep t))(H:eN t es.size)(hn:es.size<=t.mask){Q:(ay (aj×Value)×Nat×SetTable)->Shared->Prop}(h:Q (es,ep,t) s):ai GM A (Bl d) Q E s:=
 rT ho rfl (H.fits hn) h
theorem uW{d:Addr}{t t':SetTable}(ho:h.get? d=some (eS es ep t)):(h.update d (Obj.putSet be t')).get? d=some (eS be (ep+1) t'):=
 (Heap.get?_update_self _ ho rfl).trans rfl
theorem x6{d:Addr}{t t':SetTable}(ho:s.heap.get? d=some (eS es ep t))(hz:be.size<=1000){Q:Unit->Shared->Prop}(h:Q () {s with heap:=s.heap.update d (Obj.putSet be t')}):ai GM A (Bi d be t') Q E s:=
 wpAny_storeSet_of ho rfl h (by rw[eZ];lia)
end
end
section
open PySem.SetTable (Met Probe)
section
variable{P:PM}{s:Shared}{A:bo}{E:Value->Shared->Prop}
theorem oE{M:Model}{c:Bool}{a b:bw α}{Q:α->Shared->Prop}(h1:c=true->ai M A a Q E s)(h2:c=false->ai M A b Q E s):ai M A (if c=true then a else b) Q E s:=by
 cases c with
 |true=>rw[if_pos rfl];exact h1 rfl
 |false=>rw[aK Bool.false_ne_true];exact h2 rfl
theorem Ge{P:PM}(r:RepV p P (.tup l) v): ∃a,v= .ref a:=by cases r;exact⟨_,rfl⟩
theorem Te{m:Nat}{i:aj}{t:el}:rQ m (.int i t)=pure false:=by cases m<;>rfl
theorem Tf{m:Nat}{i:Str}{t:el}:rQ m (.str i t)=pure false:=by cases m<;>rfl
noncomputable def Kq:{f:Nat->Addr->Value->bw Bool// ∀m a,rQ (m+1) (.ref a)=(typeOf (.ref a)>>=f m a)}:=⟨_,λω ω=>by delta rQ;rfl⟩
set_option smartUnfolding false in
theorem He(d:aM k a): ∀{m:Nat} {v:Value} {Q:Bool->Shared->Prop},k<=m->RH s.heap a v->Q false s->ai GM A (rQ m v) Q E s:=by
 induction d with
 |int=>intro m v Q hk r h;cases r;rw[Te];exact aq h
 |str=>intro m v Q hk r h;cases r;rw[Tf];exact aq h
 |tup d ih=>
  intro m v Q hk r h
  obtain⟨a,items,c,rfl,ho,rl⟩:=xW r
  refine BK (C:=λm=>ai GM A (rQ m (.ref a)) Q E s) hk λm hk=>?_
  rw[Kq.2]
  refine wb (oy ⟨_,ho,rfl⟩ ?_)
  dsimp only[KB,Kq]
  refine wp_if_yes (by decide) ?_
  refine wb (aq ?_)
  refine wp_if_no Bool.false_ne_true ?_
  refine wb (jC ho rfl (wb ?_))
  exact Cb (aq h) λv hv=>(qo rl hv).elim λb hb=>wb (show ai _ _ (rQ m v) _ _ _ from ih b hb.1 hk hb.2 (wp_if_no Bool.false_ne_true (aq .yield)))
def VW(h:Heap)(vs:ae Value):Prop:= ∀u∈vs,∃b,aM 4 b/\RH h b u
theorem Rk{x:AV}(dx:aM 4 x)(rx:RH s.heap x v)(hs:VW s.heap vs){Q:Bool->Shared->Prop}(h:Q false s):ai GM A (Fw v vs) Q E s:=by
 unfold Fw
 refine wb (G_ (aq h) λu hu=>?_)
 refine oE (λω=>aq .yield) λω=>?_
 refine(hs u hu).elim λb hb=>?_
 refine wb (Ba dx (by decide) rx (wp_if_no Bool.false_ne_true ?_))
 refine wb (Ba hb.1 (by decide) hb.2 (wp_if_no Bool.false_ne_true ?_))
 refine wb (He dx (by decide) rx (wp_if_no Bool.false_ne_true ?_))
 exact wb (He hb.1 (by decide) hb.2 (wp_if_no Bool.false_ne_true (aq .yield)))
theorem Rl(t:SetTable):t.sameMemory t.moves t.mask=some true:=if_pos (ni _)
theorem wp_led{M:Model}{c:Bool}{S:bw Bool}{f:Bool->bw β}{x:bw β}{Q:β->Shared->Prop}(hs: ∀{Q:Bool->Shared->Prop},Q false s->ai M A S Q E s)(hf:f false=x)(h:ai M A x Q E s):ai M A (if c=true then S>>=f else x) Q E s:=by
 cases c with
 |true=>exact wp_if_yes rfl (wb (hs (Q:=KB M A f Q E) (hf.symm▸h:ai M A (f false) Q E s)))
 |false=>exact wp_if_no Bool.false_ne_true h
noncomputable def zA:{f:Addr->Value->aj->Nat->aB Probe->ay (aj×Value)×Nat×SetTable->bw SetFound// ∀a x h n st,OO a x h true (n+1) st=(Bl a>>=f a x h n st)}:=⟨_,λω ω ω ω ω=>rfl⟩
noncomputable abbrev SE:=ay (aj×Value)
theorem PE{d:Addr}{t:SetTable}{x:AV}(hp:P.le s.heap.get?)(ho:s.heap.get? d=some (eS es ep t))(H:fy es t)(rl:RepL G.w.params P l (es.toList.map (·.2)))(dl: ∀a∈l,aM 4 a)
  (tl: ∀a∈l,dp a=2) (dx:aM 4 x) (rx:RepV G.w.params P x v) (hu:A.units+20<cLine) (rm:js∉t.place.toList) {Q:SetFound->Shared->Prop} (h1:x∈l->Q (.there none) s) (h2: ∀j,j∉t.place.toList->j<=t.mask->Q (.free j false) s):
  ∀(fuel M:Nat) (vu:aB Probe),jc t (vu.getD (t.probeStart hh))->mE t js (vu.getD (t.probeStart hh)) M->M<=10*SetTable.turns t.mask->M<=fuel->ai GM A (OO d v hh true fuel vu) Q E s:=by
 intro fuel
 induction fuel with
 |zero=>intro M vu hP hD hM hf;exact ax (Nat.le_trans hD.pos hf) (Nat.not_succ_le_zero 0)
 |succ fuel ih=>
  intro M vu hP hD hM hf
  have hle:=H.tok.le H.room
  obtain⟨met,em,om⟩:=Gp (hashAt:=_) (h:=hh) H.tok rm _ hP hD hM
  have nw: ¬t.gaveWay=true:=λq=>Bool.false_ne_true (H.tok.odd.symm.trans q)
  cases met with
  |empty j du=>
   obtain⟨q1,q2,q3⟩:=om
   subst q3
   rw[zA.2]
   refine wb (sc (n:=es.size) ho H.tok hle (wp_if_no (c:=t.gaveWay=true) nw ?_))
   dsimp only[KB,zA]
   rw[em]
   exact aq (h2 j q1 q2)
  |candidate j i next=>
   obtain⟨q1,q2,q3,q4,M',q5,q6⟩:=om
   have hi:i<es.size:=H.tok.size▸(tY.mp q1).1
   have e1:es[i]? =some (es[i].1,es[i].2):=pV hi
   obtain⟨b,hb,rb⟩:=qo rl (aU.mpr ⟨es[i],gK (l:=es.toList) hi,rfl⟩)
   obtain⟨ks,eb⟩:=BN (tl b hb)
   generalize es[i].2=y at rb e1
   generalize es[i].1=hv at e1
   obtain⟨a,ey⟩:=Ge (eb▸rb)
   have hs: ∀{Q:Bool->Shared->Prop},Q false s->ai GM A (Fw v ((es.filter (·.1==hh)).toList.map (·.2))) Q E s:=Rk dx (rx.mono hp) λu hu=>by
    obtain⟨e,he,rfl⟩:=aU.mp hu
    obtain⟨c,hc,rc⟩:=qo rl (aU.mpr ⟨e,Ar.mpr (ay.mem_filter.mp (Ar.mp he)).1,rfl⟩)
    exact⟨c,dl c hc,rc.mono hp⟩
   have hE: ∀{Q:Bool->Shared->Prop},Q (decide (b=x)) s->ai GM A (eqBool y v) Q E s:=yp (dl b hb) dx (rb.mono hp) (rx.mono hp) (Nat.lt_of_le_of_lt (Nat.add_le_add_left (by decide:4<=20) _) hu)
   have hS: ∀{Q:SE×Nat×SetTable->Shared->Prop},Q (es,ep,t) s->ai GM A (Bl d) Q E s:=sc (n:=es.size) ho H.tok hle
   subst ey
   rw[zA.2]
   refine wb (hS (wp_if_no (c:=t.gaveWay=true) nw ?_))
   dsimp only[KB,zA]
   rw[em]
   refine wp_led hs rfl ?_
   rw[e1]
   refine wb (cq (hE (wb (hS ?_))))
   by_cases hq:b=x
   .exact wp_if_yes (by rewrite [decide_eq_true hq];rfl) (aq (h1 (hq▸hb)))
   .refine wp_if_no (by rewrite [cu hq];exact Bool.false_ne_true) ?_
    dsimp only
    rw[Rl]
    dsimp only
    rw[if_pos rfl,q2]
    dsimp only
    rw[e1]
    refine wb (wpAny_isSame_ref_self (wb (aq ?_)))
    refine wp_if_no (by rewrite [cu hq];exact Bool.false_ne_true) ?_
    exact ih M' (some next) q4 q6 (Nat.le_of_lt (Nat.lt_of_lt_of_le q5 hM)) (Nat.le_of_lt_succ (Nat.lt_of_lt_of_le q5 hf))
end
end
section
open PySem.SetTable (Met Probe)
section
variable{P:PM}{s:Shared}{A:bo}{E:Value->Shared->Prop}
theorem UE{m:Nat}{i:aj}{t:el}:rZ m (.int i t)=pure true:=by cases m<;>rfl
theorem UF{m:Nat}{i:Str}{t:el}:rZ m (.str i t)=pure false:=by cases m<;>rfl
noncomputable def WS:{f:Nat->Addr->aB Value->bw Bool// ∀m a,rZ (m+1) (.ref a)=(specialOf (.ref a) "__hash__">>=f m a)}:=⟨_,λω ω=>by delta rZ;rfl⟩
set_option smartUnfolding false in
theorem Hf(d:aM k a): ∀{m:Nat} {v:Value} {Q:Bool->Shared->Prop},k<=m->RH s.heap a v->(∀b,Q b s)->ai GM A (rZ m v) Q E s:=by
 induction d with
 |int=>intro m v Q hk r h;cases r;rw[UE];exact aq (h _)
 |str=>intro m v Q hk r h;cases r;rw[UF];exact aq (h _)
 |tup d ih=>
  intro m v Q hk r h
  obtain⟨a,items,c,rfl,ho,rl⟩:=xW r
  refine BK (C:=λm=>ai GM A (rZ m (.ref a)) Q E s) hk λm hk=>?_
  rw[WS.2]
  refine wb (lU ⟨_,ho,rfl⟩ PySem.F.slot_tuple_hash.lookup ?_)
  show ai _ _ (xM (.ref a)>>=_) _ _ s
  refine wb (jC ho rfl (wb ?_))
  exact Cb (aq (h _)) λv hv=>(qo rl hv).elim λb hb=>wb (show ai _ _ (rZ m v) _ _ _ from ih b hb.1 hk hb.2 λb=>oE (λω=>aq (.done (aq (h _)))) λω=>aq .yield)
structure kP(P:PM)(es:ay (aj×Value))(t:SetTable)(l:ae AV)(x:AV)(be:ay (aj×Value))(t':SetTable)(l':ae AV):Prop where
 tok:eN t' be.size
 size:be.size=es.size+1
 mask:t'.mask=t.mask
 led:t'.led= !(ly)
 rl:RepL G.w.params P l' (be.toList.map (·.2))
 perm:l'.Perm (x::l)
theorem AW{t:SetTable}{x:AV}(H:fy es t)(rl:RepL G.w.params P l (es.toList.map (·.2)))(rx:RepV G.w.params P x v)(hj:j∉t.place.toList)(hm:j<=t.mask)(b:Bool):
  ∃l',kP P es t l x (SetTable.insertAt es (SetTable.below t.place j) (hh,v)) (if b=true then(t.put j).1 else{ (t.put j).1 with plain:=false}) l':=by
 obtain⟨q1,q2,q3⟩:=UD H.tok hj hm
 have hz:=FW es (SetTable.below t.place j) (hh,v)
 obtain⟨l',r1,r2⟩:=RepL.perm ((AC es (SetTable.below t.place j) (hh,v)).symm.map (·.2)) (.cons rx rl)
 refine⟨l',?_⟩
 cases b with
 |true=>exact⟨hz.symm▸q1,hz,q2,q3.trans H.led,r1,r2⟩
 |false=>exact⟨hz.symm▸⟨q1.size,q1.zj,q1.sorted,q1.inside,q1.mask⟩,hz,q2,q3.trans H.led,r1,r2⟩
structure yv(P:PM)(be:ay (aj×Value))(t':SetTable)(l':ae AV)(t2:SetTable)(order:ay Nat)(l2:ae AV):Prop where
 eq:t'.relaid (be.map (·.1)) (SetTable.grown be.size)=some (t2,order)
 small: ¬SetTable.sizeAbove (SetTable.grown be.size)>sizeLine
 size:(order.filterMap (be[·]?)).size=be.size
 ok:fy (order.filterMap (be[·]?)) t2
 rl:RepL G.w.params P l2 ((order.filterMap (be[·]?)).toList.map (·.2))
 perm:l2.Perm l'
 YF:order.toList.Perm (c7 be.size)
theorem kP.relaid{t t':SetTable}{x:AV}(R:kP P es t l x be t' l')(H:fy es t)(hn:es.size<60)(hf:t'.tooFull=true): ∃t2 order l2,yv P be t' l' t2 order l2:=by
 obtain⟨m',w1,w2,w3⟩:=Ql (n:=es.size) (R.size▸R.tok) (R.mask.symm▸H.room) hn hf
 rw[<- R.size] at w1 w3
 obtain⟨t2,order,e1,e2,e3,e4,e5,e6⟩:=Qm R.tok w1 w2 w3
 have iI:(order.filterMap (be[·]?)).size=be.size:=ck.symm.trans (e5.length_eq.trans ck)
 obtain⟨l2,r1,r2⟩:=RepL.perm (e5.symm.map (·.2)) R.rl
 exact⟨t2,order,l2,e1,w1▸Nat.not_lt.mpr (by rcases w2 with q |q |q<;>rw[q]<;>exact Nat.le_of_ble_eq_true rfl),iI,⟨iI.symm▸e2,iI.symm▸e4.symm▸w3,e3.trans R.led⟩,r1,r2,e6⟩
theorem kP.le{t t':SetTable}{x:AV}(R:kP P es t l x be t' l')(H:fy es t):be.size<=t'.mask:=by
 rw[R.size,R.mask]
 have:=H.room
 rcases H.tok.mask with q |q |q<;>rw[q] at this ⊢ <;>lia
theorem kP.small{t t':SetTable}{x:AV}(R:kP P es t l x be t' l')(hn:es.size<60):be.size<=1000:=R.size▸Nat.le_trans hn (by decide)
theorem wp_byv{M:Model}{c:Bool}{B:bw Bool}{g:Bool->bw β}{Q:β->Shared->Prop}(hB: ∀{Q:Bool->Shared->Prop},(∀b,Q b s)->ai M A B Q E s)(h: ∀b,ai M A (g b) Q E s):ai M A (if c=true then B>>=g else pure true>>=g) Q E s:=
 oE (λω=>wb (hB h)) λω=>wb (aq (h true))
theorem Qn{d:Addr}{t':SetTable}{t2:SetTable}{l2:ae AV}(ho:s.heap.get? d=some (eS be ep t'))(H:eN t' be.size)(hle:be.size<=t'.mask)(hz:be.size<=1000)(R:yv P be t' l' t2 order l2){Q:Unit->Shared->Prop}
  (h:Q () {s with heap:=s.heap.update d (Obj.putSet (order.filterMap (be[·]?)) t2)}):ai GM A (setRelay d (SetTable.grown be.size)) Q E s:=by
 unfold setRelay
 refine cS (sc (n:=be.size) ho H hle ?_)
 dsimp only
 rw[aK R.small,R.eq]
 refine wb ?_
 wp_delta
 dsimp only
 refine wp_if_no (λq=>qb.mp q R.size) (aq ?_)
 exact x6 ho (R.size.symm▸hz) h
end
end
section
open PySem.SetTable (Met Probe)
section
variable{P:PM}{s:Shared}{A:bo}{E:Value->Shared->Prop}
def jq(P:PM)(s:Shared)(d:Addr)(l:ae AV)(x:AV)(Q:Bool->Shared->Prop):Prop:=
 ∀h' l' t r,iJ P h' d l'->l'.length<=l.length+1->(∀a,a∈l'↔(a=x\/a∈l))->(∀b,b≠d->h'.get? b=s.heap.get? b)->Q r {s with heap:=h',toks:=t}
theorem Rm{l l':ae AV}{x:AV}(h:l'.Perm (x::l)):l'.length<=l.length+1/\ ∀a,a∈l'↔(a=x\/a∈l):=
 ⟨by rw[h.length_eq];exact Nat.le_refl _,λa=>by rw[h.mem_iff,aY]⟩
theorem jq.now{d:Addr}{l:ae AV}{x:AV}{Q:Bool->Shared->Prop}(h:jq P s d l x Q){es be:ay (aj×Value)}{t t':SetTable}{l' l2:ae AV}(R:kP P es t l x be t' l')(p:l2.Perm l'){e2:ay (aj×Value)}{ep:Nat}{t2:SetTable}(ho:h'.get? d=some (eS e2 ep t2))(ok:fy e2 t2)(rl:RepL G.w.params P l2 (e2.toList.map (·.2)))
  (dl: ∀a∈l,aM 4 a) (dx:aM 4 x) (k: ∀b,b≠d->h'.get? b=s.heap.get? b):Q true {s with heap:=h'}:=
 have q:=Rm (p.trans R.perm)
 h h' l2 s.toks true ⟨e2,ep,t2,ho,ok,rl,λa ha=>((q.2 a).mp ha).elim (λe=>e▸dx) (dl a)⟩ q.1 q.2 k
theorem BQ{d b:Addr}{f:Obj->Obj}(hb:b≠d):(h.update d f).get? b=h.get? b:=Heap.get?_update_other _ _ (fm hb)
section
variable{d:Addr}{es be:ay (aj×Value)}{ep:Nat}{t t':SetTable}{l l':ae AV}{x:AV}{Q:Bool->Shared->Prop}
theorem jq.plain(h:jq P s d l x Q)(ho:s.heap.get? d=some (eS es ep t))(H:fy es t)(R:kP P es t l x be t' l')(dl: ∀a∈l,aM 4 a)(dx:aM 4 x)(q:t'.tooFull=false):Q true {s with heap:=s.heap.update d (Obj.putSet be t')}:=
 h.now R (.refl _) (uW ho) ⟨R.tok,R.size.symm▸Rj (n:=es.size) (R.size▸R.tok) q,R.led⟩ R.rl dl dx λb hb=>BQ hb
theorem jq.big(h:jq P s d l x Q)(ho:s.heap.get? d=some (eS es ep t))(R:kP P es t l x be t' l'){t2:SetTable}{l2:ae AV}(Y:yv P be t' l' t2 order l2)(dl: ∀a∈l,aM 4 a)(dx:aM 4 x):Q true {s with heap:=(s.heap.update d (Obj.putSet be t')).update d (Obj.putSet (order.filterMap (be[·]?)) t2)}:=
 h.now R Y.perm (uW (uW ho)) Y.ok Y.rl dl dx λb hb=>(BQ hb).trans (BQ hb)
theorem Rn(h:jq P s d l x Q)(ho:s.heap.get? d=some (eS es ep t))(H:fy es t)(R:kP P es t l x be t' l')(dl: ∀a∈l,aM 4 a)(dx:aM 4 x)(hn:es.size<60):
  ai GM A (do
    Bi d be t'
    if !false&&t'.tooFull then setRelay d (SetTable.grown (es.size+1))
    return true) Q E s:=by
 refine wb (x6 ho (R.small hn) (oE (λq=>?_) λq=>aq (h.plain ho H R dl dx q)))
 obtain⟨t2,order,l2,Y⟩:=R.relaid H hn q
 rw[<- R.size]
 exact wb (Qn (uW ho) R.tok (R.le H) (R.small hn) Y (aq (h.big ho R Y dl dx)))
theorem Qo{t2:SetTable}{l2:ae AV}(Y:yv P be t' l' t2 order l2):relayAll t' be (SetTable.grown be.size)=(order.filterMap (be[·]?),t2,false):=by
 unfold relayAll
 rw[Y.eq]
 exact if_pos (Bool.and_eq_true_iff.mpr ⟨ae.isPerm_iff.mpr Y.YF,Y.ok.tok.fits (Y.ok.tok.le Y.ok.room)⟩)
theorem Qp(h:jq P s d l x Q)(ho:s.heap.get? d=some (eS es ep t))(H:fy es t)(R:kP P es t l x be t' l')(dl: ∀a∈l,aM 4 a)(dx:aM 4 x)(hn:es.size<60){g:Bool->bw Unit}{F:aB Bool->Shared->Prop}(hg:g false=pure ())(hF: ∀s',Q true s'->F (some true) s'):
  ai GM A (do
    Bi d be t'
    if !false&&t'.tooFull then
     let(es,t,WT):=relayAll t' be (SetTable.grown be.size)
     g WT
     Bi d es t
    return some true) F E s:=by
 refine wb (x6 ho (R.small hn) (oE (λq=>?_) λq=>aq (hF _ (h.plain ho H R dl dx q))))
 obtain⟨t2,order,l2,Y⟩:=R.relaid H hn q
 rw[Qo Y]
 dsimp only
 rw[hg]
 exact wb (aq (wb (x6 (uW ho) (Y.size.symm▸R.small hn) (aq (hF _ (h.big ho R Y dl dx))))))
end
noncomputable def LC:{f:Addr->Value->aj->Nat->ay (aj×Value)×Nat×SetTable->bw Bool// ∀a x h n,xC a x h (n+1)=(Bl a>>=f a x h n)}:=⟨_,λω ω ω ω=>rfl⟩
theorem Ro{t:SetTable}(H:eN t n):10*SetTable.turns t.mask<=100000:=by
 rcases H.mask with q |q |q<;>rw[q]<;>exact Nat.le_of_ble_eq_true rfl
structure WU(P:PM)(h:Heap)(d:Addr)(l:ae AV)(es:ay (aj×Value))(ep:Nat)(t:SetTable)(js:Nat):Prop where
 ho:h.get? d=some (eS es ep t)
 H:fy es t
 rl:RepL G.w.params P l (es.toList.map (·.2))
 dl: ∀a∈l,aM 4 a
 le:es.size<=t.mask
 n:es.size<60
 j1:js<t.mask+1
 j2:js∉t.place.toList
theorem iJ.open{d:Addr}{l:ae AV}(S:iJ P s.heap d l)(hl:l.length<60): ∃es ep t js,WU P s.heap d l es ep t js:=by
 obtain⟨es,ep,t,ho,H,rl,dl⟩:=S
 have hle:=H.tok.le H.room
 obtain⟨js,j1,j2⟩:=PB t.place.toList (t.mask+1) (by rw[ck,H.tok.size];exact Nat.lt_succ_of_le hle)
 exact⟨es,ep,t,js,ho,H,rl,dl,hle,by rw[<- ck,<- ar (·.2),<- rl.length];exact hl,j1,j2⟩
theorem jq.old{d:Addr}{l:ae AV}{x:AV}{Q:Bool->Shared->Prop}(h:jq P s d l x Q)(S:iJ P s.heap d l)(hx:x∈l):Q false s:=
 h s.heap l s.toks false S (Nat.le_succ _) (λa=>⟨.inr,λq=>q.elim (λe=>e▸hx) id⟩) λω ω=>rfl
theorem Ph{d:Addr}{l:ae AV}{x:AV}(hp:P.le s.heap.get?)(S:iJ P s.heap d l)(tx:dp x=2)(tl: ∀a∈l,dp a=2)(dx:aM 4 x)(rx:RepV G.w.params P x v)(hl:l.length<60)(hu:A.units+20<cLine)
  {Q:Bool->Shared->Prop} (h:jq P s d l x Q):ai GM A (xC d v hh 100000) Q E s:=by
 obtain⟨es,ep,t,js,N⟩:=S.open hl
 have hb:byScan v es=false:=by
  obtain⟨ks,rfl⟩:=BN tx
  obtain⟨a,rfl⟩:=Ge rx
  rfl
 rw[show xC d v hh 100000=_ from LC.2 d v hh 99999]
 refine wb (sc (n:=es.size) N.ho N.H.tok N.le ?_)
 refine wp_if_no (c:=byScan v es=true) (λq=>Bool.false_ne_true (hb.symm.trans q)) ?_
 have wE:jc t (aB.getD none (t.probeStart hh)):=jc.start hh
 refine wb (PE (js:=js) hp N.ho N.H N.rl N.dl tl dx rx hu N.j2 (λhx=>aq (h.old S hx)) (λj q1 q2=>?_) 100000 (10*SetTable.turns t.mask) none wE (Go N.H.tok (Nat.le_of_lt_succ N.j1) _ wE) (Nat.le_refl _) (Ro N.H.tok))
 refine wb (sc (n:=es.size) N.ho N.H.tok N.le ?_)
 refine wp_byv (c:=t.plain) (Hf dx (by decide) (rx.mono hp)) λb=>?_
 exact(AW (hh:=hh) N.H N.rl rx q1 q2 b).elim λl' R=>Rn h N.ho N.H R N.dl dx N.n
theorem Rp{es:ay (aj×Value)}{l:ae AV}(rl:RepL G.w.params P l (es.toList.map (·.2)))(tl: ∀a∈l,dp a<2):es.all (λe=>e.2.scannable)=true:=by
 rw[<- ay.all_toList,ox]
 intro e he
 obtain⟨a,ha,ra⟩:=qo rl (aU.mpr ⟨e,he,rfl⟩)
 have:=tl a ha
 generalize e.2=v at ra
 cases a with
 |int=>cases ra;rfl
 |str=>cases ra;rfl
 |tup=>exact ax this (Nat.lt_irrefl 2)
 |_=>exact ax this (show ¬3<2 by decide)
theorem GO{d:Addr}{es:ay (aj×Value)}{ep:Nat}{t:SetTable}{l:ae AV}{x:AV}{v:Value}{hh:aj}(hp:P.le s.heap.get?)(ho:s.heap.get? d=some (eS es ep t))(H:fy es t)(hle:es.size<=t.mask)(dl: ∀a∈l,aM 4 a)(dx:aM 4 x)(rx:RepV G.w.params P x v)(hu:A.units+20<cLine)
  {Q:ScanMet->Shared->Prop} (h1: ∀i,x∈l->Q (.found i) s) (h2:Q .absent s): ∀(rest:ae (aj×Value)) (i:Nat),(∀u∈rest,∃a,a∈l/\RepV G.w.params P a u.2)->ai GM A (setScanFrom d v hh true rest i) Q E s
 |[],i,_=>aq h2
 |(h',y)::rest,i,hr=>by
  obtain⟨b,hb,rb⟩:=hr (h',y) (.head _)
  have next:=GO (hh:=hh) hp ho H hle dl dx rx hu h1 h2 rest (i+1) λu hu=>hr u (.tail _ hu)
  show ai _ _ (if(h'==hh)=true then setEpoch d>>=_ else setScanFrom d v hh true rest (i+1)) _ _ _
  refine oE (λω=>?_) λω=>next
  refine wb (Fv ho rfl (H.tok.fits hle) ?_)
  refine wb (yp (dl b hb) dx (rb.mono hp) (rx.mono hp) (Nat.lt_of_le_of_lt (Nat.add_le_add_left (by decide:4<=20) _) hu) ?_)
  by_cases hq:b=x
  .exact wp_if_yes (by rewrite [decide_eq_true hq];rfl) (aq (h1 i (hq▸hb)))
  .refine wp_if_no (by rewrite [cu hq];exact Bool.false_ne_true) ?_
   refine wb (Fv ho rfl (H.tok.fits hle) ?_)
   refine wp_if_no (λq=>qb.mp q rfl) ?_
   exact wp_if_no (by rewrite [cu hq];exact Bool.false_ne_true) next
theorem Rq{d:Addr}{es:ay (aj×Value)}{ep:Nat}{t:SetTable}{l:ae AV}{x:AV}(hp:P.le s.heap.get?)(ho:s.heap.get? d=some (eS es ep t))(H:fy es t)(hle:es.size<=t.mask)(rl:RepL G.w.params P l (es.toList.map (·.2)))(dl: ∀a∈l,aM 4 a)(dx:aM 4 x)(rx:RepV G.w.params P x v)(hu:A.units+20<cLine)
  {Q:ScanMet->Shared->Prop} (h1: ∀i,x∈l->Q (.found i) s) (h2:Q .absent s):ai GM A (setScan d v hh true es) Q E s:=by
 have mem: ∀u∈es.toList,∃a,a∈l/\RepV G.w.params P a u.2:=λu hu=>qo rl (aU.mpr ⟨u,hu,rfl⟩)
 have gen:=GO (E:=E) (A:=A) (hh:=hh) hp ho H hle dl dx rx hu h1 h2 es.toList 0 mem
 cases dx with
 |int=>cases rx;exact gen
 |tup=>cases rx;exact gen
 |str _ xs=>
  cases rx
  refine oE (λω=>?_) λω=>gen
  unfold setScanStrs
  cases hf:es.findIdx? λe=>e.2.isStr xs with
  |none=>exact aq h2
  |some i=>
   obtain⟨bj,zB,_⟩:=ay.findIdx?_eq_some_iff_getElem.mp hf
   dsimp only
   rw[show es[i]? =some (es[i].1,es[i].2) from pV bj]
   obtain⟨b,hb,rb⟩:=mem es[i] (gK (l:=es.toList) bj)
   generalize es[i].2=y at zB rb
   have db:=dl b hb
   have LD:b= .str xs:=by
    cases db with
    |int=>cases rb;exact nomatch zB
    |tup=>cases rb;exact nomatch zB
    |str=>cases rb;exact congrArg AV.str (lZ zB)
   refine wb (Fv ho rfl (H.tok.fits hle) ?_)
   refine wb (yp db (.str 4 xs) (rb.mono hp) (.str xs _) (Nat.lt_of_le_of_lt (Nat.add_le_add_left (by decide:4<=20) _) hu) ?_)
   exact wp_if_yes (by rewrite [decide_eq_true LD];rfl) (aq (h1 i (LD▸hb)))
theorem Tg{es:ay (aj×Value)}{t:SetTable}{l:ae AV}{x:AV}(H:fy es t)(rl:RepL G.w.params P l (es.toList.map (·.2)))(rx:RepV G.w.params P x v)(j1:js<t.mask+1)(j2:js∉t.place.toList):
  ∃j,j∉t.place.toList/\j<=t.mask/\layNew t es hh v=(SetTable.insertAt es (SetTable.below t.place j) (hh,v),(t.put j).1,false,false):=by
 have wE:jc t (t.probeStart hh):=jc.start hh
 obtain⟨met,em,om⟩:=Gp (hashAt:=λω=>hh+1) (h:=hh) H.tok j2 _ wE (Go H.tok (Nat.le_of_lt_succ j1) _ wE) (Nat.le_refl _)
 cases met with
 |candidate j i next=>exact ax (show hh+1=hh from om.2.2.1) (aj.ne_of_gt (aj.lt_succ hh))
 |empty j du=>
  obtain⟨q1,q2,q3⟩:=om
  refine⟨j,q1,q2,?_⟩
  have YG:t.freeSlot hh=some (j,false):=by
   unfold SetTable.freeSlot;rw[em,q3];rfl
  obtain⟨l',R⟩:=AW (hh:=hh) H rl rx q1 q2 true
  have fit:(t.put j).1.fits (SetTable.insertAt es (SetTable.below t.place j) (hh,v)).size=true:=R.tok.fits (R.le H)
  unfold layNew
  rw[YG]
  show(SetTable.insertAt es (SetTable.below t.place j) (hh,v),(t.put j).1.orStandIn _,false,!(t.put j).1.fits _)=_
  unfold SetTable.orStandIn
  rw[fit]
  rfl
theorem Pa{d:Addr}{l:ae AV}{x:AV}(hp:P.le s.heap.get?)(S:iJ P s.heap d l)(tx:dp x<2)(tl: ∀a∈l,dp a<2)(dx:aM 4 x)(rx:RepV G.w.params P x v)(hl:l.length<60)(hu:A.units+20<cLine)
  {Q:Bool->Shared->Prop} (h:jq P s d l x Q):ai GM A (xC d v hh 100000) Q E s:=by
 obtain⟨es,ep,t,js,N⟩:=S.open hl
 have hv:v.scannable=true:=by
  cases dx with
  |int=>cases rx;rfl
  |str=>cases rx;rfl
  |tup=>exact ax tx (Nat.lt_irrefl 2)
 have hb:byScan v es=true:=by
  unfold byScan
  rw[hv,Rp N.rl tl,decide_eq_true (show es.size<scanBound from Nat.lt_trans N.n (by decide))];rfl
 rw[show xC d v hh 100000=_ from LC.2 d v hh 99999]
 refine wb (sc (n:=es.size) N.ho N.H.tok N.le ?_)
 refine wp_if_yes (c:=byScan v es=true) hb ?_
 unfold setAddByScan
 refine wb (wb (fj (wb (Rq hp N.ho N.H N.le N.rl N.dl dx rx hu (λi hx=>aq (aq (h.old S hx))) ?_))))
 obtain⟨j,q1,q2,YH⟩:=Tg (v:=v) (hh:=hh) N.H N.rl rx N.j1 N.j2
 dsimp only[KB]
 rw[YH]
 refine wb (aq ?_)
 refine wp_byv (c:=(t.put j).1.plain) (Hf dx (by decide) (rx.mono hp)) λb=>?_
 exact(AW (hh:=hh) N.H N.rl rx q1 q2 b).elim λl' R=>Qp h N.ho N.H R N.dl dx N.n rfl λs' q=>aq q
theorem Th{d:Addr}{l:ae AV}{x:AV}(hp:P.le s.heap.get?)(off:P d=none)(S:iJ P s.heap d l)(tl: ∀a∈l,dp a=dp x)(dx:aM 4 x)(rx:RepV G.w.params P x v)(hl:l.length<60)(hu:A.units+20<cLine)
  {Q:Bool->Shared->Prop} (h:jq P s d l x Q):ai GM A (setAdd d v) Q E s:=by
 unfold setAdd
 refine cq (wb (uG hp dx rx hu ?_))
 unfold setAddHashed
 refine cq ?_
 have h':jq P {s with toks:=s.toks+fY x} d l x Q:=λh1 l' t r a b c e=>h h1 l' t r a b c e
 by_cases hk:dp x=2
 .exact Ph (s:={s with toks:=s.toks+fY x}) hp S hk (λa ha=>(tl a ha).trans hk) dx rx hl hu h'
 .have kS:dp x<2:=by
   cases dx with
   |tup=>exact ax rfl hk
   |_=>exact Nat.le_of_ble_eq_true rfl
  exact Pa (s:={s with toks:=s.toks+fY x}) hp S kS (λa ha=>by rw[tl a ha];exact kS) dx rx hl hu h'
end
end
section
variable{n:Nat}{X P:PM}{σ:ah}{s:Shared}{A:bo}{E:Value->Shared->Prop}
theorem H5{it:Addr}{r:ae AV}(hp:P.le s.heap.get?)(I:cA G.w.params P s.heap it l)(hl:l=a::r)
  (h: ∀v h',RepV G.w.params P a v->cA G.w.params P h' it r->Heap.SameBut it s.heap h'->Q (some v) {s with heap:=h'}):ai GM A (cR (.ref it)) Q E s:=by
 cases I with
 |list hi hq rr=>
  obtain⟨e1,e2⟩:=lc hl
  obtain⟨v,hv,rv⟩:=rr.get e1
  exact Nm hi ⟨_,hp _ _ hq,rfl,_,rfl⟩ (x:=v) (by rw[<- dR];exact hv) λh' dT hs=>h v h' rv (e2▸ .list dT hq rr) hs
 |tuple hi hq rr=>
  obtain⟨e1,e2⟩:=lc hl
  obtain⟨v,hv,rv⟩:=rr.get e1
  exact Nj hi ⟨_,hp _ _ hq,rfl,_,rfl⟩ (x:=v) (by rw[<- dR];exact hv) λh' dT hs=>h v h' rv (e2▸ .tuple dT hq rr) hs
theorem IV{it:Addr}(hh:A.handled=none)(hp:P.le s.heap.get?)(I:cA G.w.params P s.heap it l)(hl:l=[])
  (hE: ∀h',Heap.ExtBut it s.heap h'->Q none {s with heap:=h'}):ai GM A (cR (.ref it)) Q E s:=by
 cases I with
 |list hi hq rr=>exact Ny hh hi ⟨_,hp _ _ hq,rfl,_,rfl⟩ (by rw[<- dR];exact rr.sr (qi hl)) hE
 |tuple hi hq rr=>exact Nn hh hi ⟨_,hp _ _ hq,rfl,_,rfl⟩ (by rw[<- dR];exact rr.sr (qi hl)) hE
theorem iJ.same{d:Addr}(S:iJ P h d l)(hP:P.le P')(e:h'.get? d=h.get? d):iJ P' h' d l:=by
 obtain⟨es,ep,t,ho,H,rl,dl⟩:=S
 exact⟨es,ep,t,e.trans ho,H,rl.mono hP,dl⟩
theorem iJ.some{d:Addr}(S:iJ P h d l): ∃o,h.get? d=some o:=by obtain⟨es,ep,t,ho,_⟩:=S;exact⟨_,ho⟩
theorem Rr{S I:Addr}(hh:A.handled=none)(hu:A.units+40<cLine)(oS:P S=none)(oI:P I=none)(ne:I≠S): ∀(rest acc:ae AV) (s:Shared),P.le s.heap.get?->cA G.w.params P s.heap I rest->iJ P s.heap S acc->
  (∀a∈rest,aM 4 a/\ ∀b∈rest++acc,dp b=dp a)->acc.length+rest.length<=60->
  (∀h' t i9,iJ P h' S i9->(∀a,a∈i9↔a∈acc\/a∈rest)->i9.length<=acc.length+rest.length->(∀b o,b≠S->b≠I->s.heap.get? b=some o->h'.get? b=some o)->R (.ok (.ret .none)) {s with heap:=h',toks:=t})->
  fX GM A (.builtin "set.update.loop" ⟨[.ref S,.ref I],[]⟩) R s:=by
 intro rest
 induction rest with
 |nil=>
  intro acc s hp hI hS hd hl hR
  refine nj PyProof.Rows.F.entry_set_update_loop ?_
  rw[oq PyProof.Rows.F.plain_set_update_loop _]
  show ai _ A.in1 (cR (.ref I)>>=_) _ _ s
  refine wb (IV hh hp hI rfl λh' hx=>?_)
  show ai _ A.in1 (ret Value.none) _ _ _
  obtain⟨o,ho⟩:=hS.some
  refine aq (hR h' s.toks acc (hS.same (PM.le.refl P) ((hx _ _ ne.symm ho).trans ho.symm)) (λa=>⟨.inl,λq=>q.elim id λq=>ax q jf⟩) (Nat.le_refl _) λb o ω hb e=>hx b o hb e)
 |cons x rest ih=>
  intro acc s hp hI hS hd hl hR
  refine nj PyProof.Rows.F.entry_set_update_loop ?_
  rw[oq PyProof.Rows.F.plain_set_update_loop _]
  show ai _ A.in1 (cR (.ref I)>>=_) _ _ s
  refine wb (H5 hp hI rfl λv aD rv sS cY=>?_)
  show ai _ A.in1 (holding [v] (setAdd S v)>>=_) _ _ _
  have fB:P.le aD.get?:=λb o e=>(cY.2 b (λq=>by rw[q,oI] at e;cases e)).trans (hp b o e)
  obtain⟨dx,tx⟩:=hd x (.head _)
  simp only[gh] at hl
  refine wb (cq (Th (s:={s with heap:=aD}) fB oS (hS.same (PM.le.refl P) (cY.2 _ ne.symm)) (λa ha=>tx a (cy.mpr (.inr ha))) dx rv (by lia) (by show A.units+1+20<_;lia) λaI UG t r vy l₂ m₂ k₂=>?_))
  have jO:P.le aI.get?:=λb o e=>(k₂ b (λq=>by rw[q,oS] at e;cases e)).trans (fB b o e)
  refine aq ⟨plainId_quiet PyProof.Rows.F.plain_set_update_loop _,ih UG {s with heap:=aI,toks:=t} jO (sS.same (PM.le.refl P) (k₂ _ ne)) vy (λa ha=>⟨(hd a (.tail _ ha)).1,λb hb=>?_⟩) (by lia) λbK Di UH sT iw aah Dj=>?_⟩
  .refine(hd a (.tail _ ha)).2 b ?_
   rcases cy.mp hb with q |q
   .exact cy.mpr (.inl (.tail _ q))
   .rcases(m₂ b).mp q with e |q
    .exact cy.mpr (.inl (e▸ .head _))
    .exact cy.mpr (.inr q)
  .refine hR bK Di UH sT (λa=>?_) (by simp only[gh];lia) λb o h1 h2 e=>Dj b o h1 h2 ((k₂ b h1).trans ((cY.2 b h2).trans e))
   rw[iw,m₂,aY]
   constructor
   .rintro((q |q) |q)
    .exact .inr (.inl q)
    .exact .inl q
    .exact .inr (.inr q)
   .rintro(q |q |q)
    .exact .inl (.inr q)
    .exact .inl (.inl q)
    .exact .inr q
noncomputable def iQ:Obj:={cls:= .type "set",dict:=none,data:= .set #[] 0 (.fresh 0 0 (!(ly)))}
theorem Ti(a:Value){Q₁:Value->Shared->Prop}(h:Q₁ (.ref s.heap.objs.size) {s with heap:=s.heap.push (iQ)}):
  fX GM A (.call (.builtin "set.__new__") ⟨[.type "set",a],[]⟩) (wants Q₁ E) s:=by
 refine FH ?_
 show ai _ A.in1 (do checkBuiltinCall "set.__new__" ⟨[.type "set",a],[]⟩;again (.builtin "set.__new__" ⟨[.type "set",a],[]⟩)) _ _ s
 refine wb (xI (PySem.F.newCall_set_1 a) (aq ⟨plainId_quiet PySem.F.plain_set_new _,nj PySem.F.entry_set_new ?_⟩))
 rw[oq PySem.F.plain_set_new _]
 unfold cF.«set.__new__» cF.Frozenset.newClass
 have vU:=PySem.sub_set_self
 obtain⟨hp,g,d,tk,os⟩:=s
 dsimp only
 wp_walk
 refine pY (aq ?_)
 dsimp only
 simp only[newObj]
 refine wb (wpAny_alloc (aq ?_))
 exact aq h
theorem Rs:fy #[] (.fresh 0 0 (!(ly))):=by
 refine⟨⟨rfl,rfl,?_,?_,.inl rfl⟩,?_,rfl⟩
 .exact OU.nil
 .intro j hj;exact ax hj (by simp[SetTable.fresh])
 .show 0*5<7*3;lia
inductive VX(P:PM)(as:ae AV)(s:Shared)(r:Value)(aV:Shared):Prop
 |mk (h':Heap) (tk:Nat) (l':ae AV) (e:r= .none) (es:aV={s with heap:=h',toks:=tk}) (hS:iJ P h' s.heap.objs.size l') (m: ∀a,a∈l'↔a∈as) (z:l'.length<=as.length) (k: ∀b o,s.heap.get? b=some o->h'.get? b=some o)
theorem Rt{l:Addr}{as:ae AV}{Q:Value->Shared->Prop}(hh:A.handled=none)(hu:A.units+60<cLine)(hp:P.le s.heap.get?)(hl:P l=some (cw items k))(rl:RepL G.w.params P as items.toList)
  (hd: ∀a∈as,aM 4 a/\ ∀b∈as,dp b=dp a) (hz:as.length<=60)
  (h: ∀(h':Heap) (t:Nat) (l':ae AV),iJ P h' s.heap.objs.size l'->(∀a,a∈l'↔a∈as)->l'.length<=as.length->(∀b o,s.heap.get? b=some o->h'.get? b=some o)->Q (.ref s.heap.objs.size) {s with heap:=h',toks:=t}):
  ai GM A (call (.type "set") [.ref l]) Q E s:=by
 obtain⟨c,tl,aai⟩:=PySem.F.called_set.mro
 have Z9:=PySem.F.called_set.made
 have vU:=PySem.F.called_set.sub
 refine wpAny_call (FH ?_)
 show ai _ _ (callAny (.type "set") _) _ _ _
 refine aq ⟨Code.quiet_builtin _ (by decide+kernel),nj PySem.F.entry_type_call ?_⟩
 rw[bo.under_plain (weight_type_call_type "set" [.ref l] []) rfl]
 have h1:=PySem.F.called_set.notType
 have h2:=PySem.F.called_set.canCreate
 have hct:=PySem.F.typeCall_set_1 (.ref l)
 repeat (any_goals (first |assumption |wp_step))
 refine lV (Ti (.ref l) (E:=E) (Q₁:=λobj aH=>obj= .ref s.heap.objs.size/\aH={s with heap:=s.heap.push (iQ)}) ⟨rfl,rfl⟩) λr aH hr=>?_
 cases r with
 |error e=>exact hr
 |ok fl=>
  cases fl with
  |ret obj=>
   obtain⟨rfl,rfl⟩:=hr
   have hS:(s.heap.push (iQ)).get? s.heap.objs.size=some (iQ):=Heap.get?_push_size _ rfl
   have hT:Shared.TypeIs {s with heap:=s.heap.push (iQ)} (.ref s.heap.objs.size) "set":=⟨_,hS,rfl⟩
   have hli:=PySem.F.called_set.init.lookup
   have lP:=PySem.F.called_set.init.bind (.ref s.heap.objs.size)
   repeat (any_goals (first |assumption |wp_step))
   refine lV (codeAny_call_builtin (R:=wants (VX P as s) E) PySem.F.called_set.init.plain PySem.F.entry_set_init (check_set_init_1 hT ?_)) λb_ aV CO=>?_
   .have re:s.heap.get? l=some (cw items k):=hp _ _ hl
    have Dk:(s.heap.push (iQ)).get? l=some (cw items k):=Heap.get?_push_of_some _ re
    have aaj:=PySem.F.sub_list_set
    have aak:=PySem.F.sub_list_frozenset
    have cj:(Value.type "list"==Value.type "dict")=false:=by decide
    have zy:(s.heap.push (iQ)).IsList l items:=⟨_,Dk,rfl,k,rfl⟩
    unfold cw at Dk
    unfold iQ at hS Dk zy ⊢
    unfold cF.«set.__init__» noKeywords cF.Frozenset.updateFrom
    refine gn (hW) λPI zC=>?_
    wp_walk
    subst zC
    refine xq zy ?_
    refine wb (OJ ?_)
    have oS:P s.heap.objs.size=none:=by
     cases q:P s.heap.objs.size with
     |none=>rfl
     |some o=>exact ax (Heap.lt_size (hp _ _ q)) (Nat.lt_irrefl _)
    have zI:(s.heap.push (iQ)).objs.size=s.heap.objs.size+1:=Heap.size_push ..
    have oI:P (s.heap.push (iQ)).objs.size=none:=by
     rw[zI]
     cases q:P (s.heap.objs.size+1) with
     |none=>rfl
     |some o=>exact ax (Heap.lt_size (hp _ _ q)) (Nat.not_lt.mpr (Nat.le_succ _))
    refine Rr (S:=s.heap.objs.size) (I:=(s.heap.push (iQ)).objs.size) (P:=P) ?_ ?_ oS oI (by rw[zI];exact Nat.succ_ne_self _) as [] _ (λb o e=>Heap.get?_push_of_some _ (Heap.get?_push_of_some _ (hp b o e))) ?_ ?_ ?_ (by simpa using hz) ?_
    .simp[hh]
    .show A.units+1+1+40<_;lia
    .show cA G.w.params P ((s.heap.push (iQ)).push {cls:= .type "list_iterator",data:= .fields #[.ref l,.int 0 0]}) (s.heap.push (iQ)).objs.size as
     have:=cA.list (p:=G.w.params) (P:=P) (h:=(s.heap.push (iQ)).push {cls:= .type "list_iterator",data:= .fields #[.ref l,.int 0 0]}) (it:=(s.heap.push (iQ)).objs.size) (i:=0) ⟨_,Heap.get?_push_size _ rfl,rfl,rfl⟩ hl rl
     simpa using this
    .exact⟨#[],0,_,Heap.get?_push_of_some _ hS,Rs,.nil,λa ha=>by cases ha⟩
    .intro a ha;exact⟨(hd a ha).1,λb hb=>(hd a ha).2 b (by simpa using hb)⟩
    .intro h' t i9 DZ m' l' k'
     refine aq ?_
     show ai _ _ (ret Value.none) _ _ _
     refine aq ⟨h',t,i9,rfl,rfl,DZ,λa=>by rw[m'];simp,by simpa using l',λb o e=>?_⟩
     have hb:=Heap.lt_size e
     exact k' b o (Nat.ne_of_lt hb) (by rw[zI];exact Nat.ne_of_lt (Nat.lt_succ_of_lt hb)) (Heap.get?_push_of_some _ (Heap.get?_push_of_some _ e))
   .cases b_ with
    |error e=>exact CO
    |ok VY=>
     cases VY with
     |ret r=>
      obtain⟨h',tk,l',rfl,rfl,DZ,m',z',bJ⟩:=CO
      repeat (any_goals (first |assumption |wp_step))
      exact h _ _ _ DZ m' z' bJ
     |_=>exact CO.elim
  |_=>exact hr.elim
end
def f8(P P':PM)(h:Heap):Prop:=P.le P'/\ ∀c,P' c=P c\/h.get? c=none
theorem f8.refl(P:PM)(h:Heap):f8 P P h:=⟨PM.le.refl P,λω=> .inl rfl⟩
theorem j9{P:PM}{I c:Addr}{o:Obj}(off:P I=none)(e:P c=some o):c≠I:=λq=>nos (off.symm.trans (q▸e))
section
variable{n:Nat}{X P:PM}{σ:ah}{s:Shared}{A:bo}{E:Value->Shared->Prop}
theorem f8.same{P:PM}(g:f8 P P' h){c:Addr}{o:Obj}(e:h.get? c=some o):P' c=P c:=(g.2 c).elim id λq=>nos (q.symm.trans e)
theorem f8.trans{P aR bA:PM}{h aD:Heap}(g:f8 P aR h)(qM:f8 aR bA aD)(k: ∀b o,h.get? b=some o-> ∃o',aD.get? b=some o'):f8 P bA h:=⟨g.1.trans qM.1,λb=>by
 cases q:h.get? b with
 |none=>exact .inr rfl
 |some o=>exact(k b o q).elim λo' e=> .inl ((qM.same e).trans (g.same q))⟩
theorem bD.more(I:bD X P σ s){t:Nat}{d:Drawn}(hk: ∀a o,s.heap.get? a=some o->h'.get? a=some o)(g:f8 P P' s.heap)(hp:P'.le h'.get?):bD X P' σ {s with heap:=h',toks:=t,drawn:=d}:=by
 have J:=(I.grow (t:=t) hk).drew d
 refine⟨J.same,λa o e=>g.1 a o (J.base a o e),J.x,hp,λa ao e=>(J.st a ao e).imp λω q=>⟨q.1,q.2.mono g.1⟩,λa e=>⟨(J.off a e).1,?_⟩,λa e=>?_,J.ns⟩
 .cases q:σ a with
  |none=>exact ax q e
  |some ao=>exact(I.st a ao q).elim λo q=>(g.same q.1).trans (J.off a e).2
 .cases q:X a with
  |none=>exact ax q e
  |some o=>exact(g.same (I.x a o q)).trans (I.xp a e)
structure vW(I:Addr)(fp:ae Addr)(Z:PM->Heap->ae AV->Prop):Prop where
 next: ∀{P:PM} {s:Shared} {A:bo} {a:AV} {r:ae AV} {E:Value->Shared->Prop} {Q:aB Value->Shared->Prop},P.le s.heap.get?->(∀c∈fp,P c=none)->Z P s.heap (a::r)->
  (∀v P' h' t,f8 P P' s.heap->P'.le h'.get?->RepV G.w.params P' a v->Z P' h' r->(∀b o,b∉fp->s.heap.get? b=some o->h'.get? b=some o)->Q (some v) {s with heap:=h',toks:=t})->ai GM A (cR (.ref I)) Q E s
 stop: ∀{P:PM} {s:Shared} {A:bo} {E:Value->Shared->Prop} {Q:aB Value->Shared->Prop},A.handled=none->P.le s.heap.get?->(∀c∈fp,P c=none)->Z P s.heap []->
  (∀h',P.le h'.get?->(∀b o,b∉fp->s.heap.get? b=some o->h'.get? b=some o)->Q none {s with heap:=h'})->ai GM A (cR (.ref I)) Q E s
 keep: ∀{P:PM} {h h':Heap} {l:ae AV},Z P h l->(∀c∈fp,h'.get? c=h.get? c)->Z P h' l
 d_: ∀{P:PM} {h:Heap} {l:ae AV},Z P h l-> ∀c∈fp,∃o,h.get? c=some o
theorem lr{D b:Addr}{f:Obj->Obj}(hb:b≠D):(h.update D f).get? b=h.get? b:=Heap.get?_update_other _ _ (fm hb)
theorem Rv{I D:Addr}{fp:ae Addr}{Z:PM->Heap->ae AV->Prop}(hZ:vW I fp Z)(hh:A.handled=none)(hD:D∉fp)(res:Value)(rest:ae AV): ∀(acc:ae AV) (P:PM) (s:Shared) (items:ay Value) (c:Nat),
  P.le s.heap.get?->(∀c∈fp,P c=none)->P D=none->Z P s.heap rest->s.heap.get? D=some (cw items c)->RepL G.w.params P acc items.toList->acc.length+rest.length<=sizeLine->
  (∀P' h' t bW c',f8 P P' s.heap->P'.le h'.get?->h'.get? D=some (cw bW c')->RepL G.w.params P' (acc++rest) bW.toList->(∀b o,b∉fp->b≠D->s.heap.get? b=some o->h'.get? b=some o)->R (.ok (.ret res)) {s with heap:=h',toks:=t})->
  fX GM A (.builtin "list.extend.loop" ⟨[.ref D,.ref I,res],[]⟩) R s:=by
 induction rest with
 |nil=>
  intro acc P s items c hp hf hn hI ho ra hz hR
  refine nj PySem.F.entry_extend_loop ?_
  rw[oq PySem.F.plain_extend_loop _]
  show ai _ A.in1 (cR (.ref I)>>=_) _ _ s
  exact wb (hZ.stop hh hp hf hI λh' cZ hk=>aq (hR P h' s.toks items c (f8.refl P _) cZ (hk D _ hD ho) ((lT acc).symm▸ra) λb o hb ω e=>hk b o hb e))
 |cons a rest ih=>
  intro acc P s items c hp hf hn hI ho ra hz hR
  refine nj PySem.F.entry_extend_loop ?_
  rw[oq PySem.F.plain_extend_loop _]
  show ai _ A.in1 (cR (.ref I)>>=_) _ _ s
  refine wb (hZ.next hp hf hI λv aR aD t qM fB rv sS CP=>?_)
  have sU:=CP D _ hD ho
  have e1:items.size=acc.length:=ck.symm.trans ra.length.symm
  have JN:aR D=none:=(qM.same ho).trans hn
  have VZ: ∀c∈fp,aR c=none:=λc hc=>(hZ.d_ hI c hc).elim λo e=>(qM.same e).trans (hf c hc)
  have j8:items.size+1<=sizeLine:=e1.symm▸Nat.le_trans (Nat.add_le_add_left (Nat.le_add_left 1 rest.length) acc.length) hz
  show ai _ A.in1 (xK D (·.push v)>>=_) _ _ _
  refine wb (xu sU rfl ?_ (Nat.le_of_succ_le j8) (by show(items.push v).size<=sizeLine+1;rw[ay.size_push];exact Nat.le_trans j8 (Nat.le_succ _)))
  obtain⟨c',yP⟩:=nB (·.push v) sU
  have ac:acc++a::rest=(acc++[a])++rest:=Of acc a rest
  refine aq ⟨plainId_quiet PySem.F.plain_extend_loop _,ih (acc++[a]) aR _ (items.push v) c' (λb o e=>(lr (j9 JN e)).trans (fB b o e)) VZ JN (hZ.keep sS λb hb=>lr λq=>hD (q▸hb)) yP (t6.symm▸(ra.mono qM.1).append (.cons rv .nil)) (by rw[<- bQ,<- ac,bQ];exact hz) λbA aI jv Rw c₂ WV jO CR b_ gP=>?_⟩
  refine hR bA aI jv Rw c₂ (qM.trans WV λb o q=>?_) jO CR (ac▸b_) λb o h1 h2 e=>gP b o h1 h2 ((lr h2).trans (CP b o h1 e))
  by_cases hb:b=D
  .exact⟨_,(congrArg (Heap.get? _) hb).trans yP⟩
  .by_cases LE:b∈fp
   .exact(hZ.d_ sS b LE).imp λω e=>(lr hb).trans e
   .exact⟨o,(lr hb).trans (CP b o LE q)⟩
structure wF(P:PM)(T:dK)(r:Addr)(LP:ae AV->Prop):Prop where
 notList:(Value.type T==Value.type "list")=false
 notTuple:(Value.type T==Value.type "tuple")=false
 type: ∀s:Shared,P.le s.heap.get?->s.TypeIs (.ref r) T
 hint: ∀(A:bo) (E:Value->Shared->Prop) (s:Shared) (Q:Bool->Shared->Prop),P.le s.heap.get?->Q false s->ai GM A (xh (.ref r)) Q E s
 iter: ∀(A:bo) (s:Shared) (E:Value->Shared->Prop) (Q:Value->Shared->Prop),P.le s.heap.get?->
  (∀I fp Z h' t d L,vW I fp Z->(∀c∈fp,s.heap.get? c=none)->(∀b o,s.heap.get? b=some o->h'.get? b=some o)->Z P h' L->LP L->Q (.ref I) {s with heap:=h',toks:=t,drawn:=d})->ai GM A (hW (.ref r)) Q E s
 there: ∃o,P r=some o
theorem Dl{P:PM}(hp:P.le h.get?):P h.objs.size=none:=by
 cases q:P h.objs.size with
 |none=>rfl
 |some o=>exact ax (Heap.lt_size (hp _ _ q)) (Nat.lt_irrefl _)
inductive JO(LP:ae AV->Prop)(P:PM)(s s':Shared):Prop
 |mk (P':PM) (h':Heap) (t:Nat) (d:Drawn) (bW:ay Value) (c':Nat) (L:ae AV) (e:s'={s with heap:=h',toks:=t,drawn:=d}) (lp:LP L) (g:f8 P P' s.heap) (cZ:P'.le h'.get?) (ho:h'.get? s.heap.objs.size=some (cw bW c')) (r:RepL G.w.params P' L bW.toList) (k: ∀b o,s.heap.get? b=some o->h'.get? b=some o)
theorem Tj{T:dK}{r:Addr}(K:wF P T r LP)(hz: ∀L,LP L->L.length<=sizeLine)(hh:A.handled=none)(hp:P.le s.heap.get?){H:Heap}(gH: ∀b o,s.heap.get? b=some o->H.get? b=some o)(JP:H.get? s.heap.objs.size=some (cw #[] 0))
  {F:PySem.Fin->Shared->Prop} (hF: ∀c' s',c'.quiet=true->fX GM A c' (λq s'=>q= .ok (.ret (.ref s.heap.objs.size))/\JO LP P s s') s'->F (.again c') s'):ai GM A.in1 (E6 (.ref s.heap.objs.size) (.ref r) (.ref s.heap.objs.size)) F E {s with heap:=H}:=by
 have nS:=Dl hp
 have fB:P.le H.get?:=λb o e=>gH b o (hp b o e)
 have cj:s.heap.objs.size≠r:=K.there.elim λω hr=>Nat.ne_of_gt (Heap.lt_size (hp _ _ hr))
 unfold E6
 refine cS (oy (T:=T) (K.type {s with heap:=H} fB) ?_)
 rw[show cF.List.listSameRef (.ref s.heap.objs.size) (.ref r)=false from pW.mpr cj,K.notList,K.notTuple]
 refine cS (K.iter A.in1 {s with heap:=H} _ _ fB λI fp Z aI jv Kr L hZ wG gP Ks lp=>?_)
 have jO:P.le aI.get?:=λb o e=>gP b o (fB b o e)
 have vy:=gP _ _ JP
 have LF:s.heap.objs.size∉fp:=λhm=>nos ((wG _ hm).symm.trans JP)
 have D0: ∀c∈fp,P c=none:=λc hc=>by
  cases q:P c with
  |none=>rfl
  |some o=>exact nos ((wG c hc).symm.trans (fB _ _ q))
 have key: ∀(bK:Heap) (c₁:Nat),P.le bK.get?->Z P bK L->bK.get? s.heap.objs.size=some (cw #[] c₁)->(∀b o,b≠s.heap.objs.size->aI.get? b=some o->bK.get? b=some o)->
   fX GM A (.builtin "list.extend.loop" ⟨[.ref s.heap.objs.size,.ref I,.ref s.heap.objs.size],[]⟩) (λq s'=>q= .ok (.ret (.ref s.heap.objs.size))/\JO LP P s s') {s with heap:=bK,toks:=jv,drawn:=Kr}:=by
  intro bK c₁ vp WW sT V0
  have low: ∀b o,s.heap.get? b=some o->bK.get? b=some o:=λb o e=>V0 b o (Nat.ne_of_lt (Heap.lt_size e)) (gP b o (gH b o e))
  refine Rv hZ hh LF _ L [] P _ #[] c₁ vp D0 nS WW sT .nil (Nat.zero_add _▸hz L lp) λP' h' t bW c' g cZ gG r' bJ=>⟨rfl,?_⟩
  exact⟨P',h',t,Kr,bW,c',L,rfl,lp,(f8.refl P _).trans g λb o e=>⟨o,low b o e⟩,cZ,gG,r',λb o e=>bJ b o (λhm=>nos ((wG b hm).symm.trans (gH b o e))) (Nat.ne_of_lt (Heap.lt_size e)) (low b o e)⟩
 refine wb (cq (K.hint _ _ _ _ jO ?_))
 refine oE (λω=>?_) λω=>aq (hF _ _ (plainId_quiet PySem.F.plain_extend_loop _) (key _ 0 jO Ks vy λb o ω e=>e))
 refine wb (fj (wb ?_))
 show ai _ _ (xK s.heap.objs.size (·.push .none)>>=λω=>xK s.heap.objs.size (·.pop)) _ _ _
 refine wb (xu vy rfl ?_)
 have sT:=Heap.get?_update_self (Obj.mapSeq (·.push Value.none)) vy rfl
 refine xu (hz:=by seq_fits) sT rfl ?_
 have V1:=Heap.get?_update_self (Obj.mapSeq (·.pop)) sT rfl
 refine aq (hF _ _ (plainId_quiet PySem.F.plain_extend_loop _) (key _ _ (λb o e=>?_) (hZ.keep Ks λc hc=>?_) V1 λb o hb e=>((lr hb).trans (lr hb)).trans e))
 .exact((lr (j9 nS e)).trans (lr (j9 nS e))).trans (jO b o e)
 .have hd:c≠s.heap.objs.size:=λq=>LF (q▸hc)
  exact(lr hd).trans (lr hd)
theorem AX{T:dK}{r:Addr}(K:wF P T r LP)(hz: ∀L,LP L->L.length<=sizeLine)(hh:A.handled=none)(hp:P.le s.heap.get?){Q:ae Value->Shared->Prop}
  (h: ∀P' h' t d L vs,f8 P P' s.heap->P'.le h'.get?->LP L->RepL G.w.params P' L vs->(∀b o,s.heap.get? b=some o->h'.get? b=some o)->Q vs {s with heap:=h',toks:=t,drawn:=d}):ai GM A (collect (.ref r)) Q E s:=by
 unfold collect
 refine wb (OJ (nj PySem.F.entry_proto_collect ?_))
 rw[oq PySem.F.plain_proto_collect _]
 show ai _ A.in1 (qm []>>=λl=>again (.builtin "list.__iadd__" ⟨[l,.ref r],[]⟩)) _ _ s
 refine wb (iO (aq ⟨plainId_quiet PySem.F.plain_list_iadd _,nj PySem.F.entry_list_iadd ?_⟩))
 rw[oq PySem.F.plain_list_iadd _]
 show ai _ A.in1 (E6 (.ref s.heap.objs.size) (.ref r) (.ref s.heap.objs.size)) _ _ _
 refine Tj K hz hh hp (λb o e=>Heap.get?_push_of_some _ e) (Heap.get?_push_size _ rfl) λc₁ aH hq hc=>⟨hq,lV hc λq aV y=>?_⟩
 obtain⟨e,x⟩:=y
 cases x with
 |mk P' h' t d bW c' L e' lp g cZ ho r k=>
  subst e e'
  exact wb (AY ho (aq (h P' h' t d L bW.toList g cZ lp r k)))
end
theorem RepL.mem{P:PM}(r:RepL p P l vs): ∀v∈vs,∃a∈l,RepV p P a v:=by
 induction l generalizing vs with
 |nil=>cases r;exactλω h=>nomatch h
 |cons x l ih=>cases r using RepL.consE with |cons rx r=>
  exactλv h=>(aY.mp h).elim (λe=>⟨x,.head _,e▸rx⟩) λh=>(ih r v h).imp λa q=>⟨.tail _ q.1,q.2⟩
theorem RepL.pick{p:bg}{P:PM}{l:ae AV}: ∀{vs':ae Value},(∀v∈vs',∃a∈l,RepV p P a v)-> ∃l',(∀a∈l',a∈l)/\RepL p P l' vs'
 |[],_=>⟨[],(λω h=>by cases h),RepL.nil⟩
 |v::vs',h=>by
  obtain⟨a,ha,r⟩:=h v (.head _)
  obtain⟨l',h',k⟩:=RepL.pick (λv hv=>h v (.tail _ hv))
  exact⟨a::l',λb hb=>(aY.mp hb).elim (λq=>q▸ha) (h' b),.cons r k⟩
inductive vz:ae AV->Prop
 |Kt {l:ae AV} (h: ∀a∈l,∃i,a= .int i):vz l
 |Ku {l:ae AV} (h: ∀a∈l,∃i,a= .str i):vz l
 |Dm {l:ae AV} (h: ∀a∈l,∃x r,a= .tup (.str x::r)):vz l
 |Kv {l:ae AV} (h: ∀a∈l,∃x r,a= .tup (.tup x::r)):vz l
structure kJ(l:ae AV):Prop where
 kind:vz l
 dat: ∀a∈l,aM 6 a
 cmp: ∀a∈l,∀b∈l,fK a b
section
variable{n:Nat}{X P:PM}{σ:ah}{s:Shared}{A:bo}{E:Value->Shared->Prop}
theorem UI(hp:P.le s.heap.get?){b fin:Bool}{Q:Bool->Shared->Prop}(hu:A.units+k<cLine)(hq: ∀c,Q c s)(la:ae AV): ∀(lb:ae AV) (va vb:ae Value) (i:Nat),RepL G.w.params P la va->RepL G.w.params P lb vb->(∀a∈la,aM k a)->(∀a∈lb,aM k a)->h_ la lb->
  (b=true->i=0-> ∃x y,la.head?=some (.str x)/\lb.head?=some (.str y))->KatLex G.prog G.w A b fin Q (va.zip vb) i s:=by
 induction la with
 |nil=>intro lb va vb i ra _ _ _ _ _;cases ra;exact kat_nil (hq _)
 |cons x la ih=>
  intro lb va vb i ra rb da db hc hb
  cases ra using RepL.consE with |cons ra ka=>
  cases lb with
  |nil=>cases rb;exact kat_nil (hq _)
  |cons y lb=>
  cases rb using RepL.consE with |cons rb kb=>
  replace hc:(x=y->h_ _ lb)/\(x≠y->fK x y):=hc
  refine kat_cons (tu hp k x y _ _ A (da _ (.head _)) (db _ (.head _)) ra rb hu _ _ _ _ ?_)
  by_cases q:x=y
  .rw[decide_eq_true q]
   exact kat_yes (ih lb _ _ (i+1) ka kb (λa h=>da a (.tail _ h)) (λa h=>db a (.tail _ h)) (hc.1 q) λω h=>ax h (Nat.succ_ne_zero i))
  .rw[cu q]
   refine kat_no ?_
   by_cases lP:(b&&i==0)=true
   .rw[lP]
    have lP:=Bool.and_eq_true_iff.mp lP
    obtain⟨x',y',h1,h2⟩:=hb lP.1 (qa.mp lP.2)
    cases aB.some.inj h1;cases aB.some.inj h2
    cases ra;cases rb
    exact oneLt_str (hq _)
   .rw[Bool.eq_false_iff.mpr lP]
    exact kat_one _ _ (La hp k x y _ _ A (da _ (.head _)) (db _ (.head _)) ra rb (hc.2 q) hu _ _ _ _ (hq _))
inductive WX(P:PM)(h:Heap)(l:ae AV)(vs:ae Value):Prop
 |mk (fs:ae Value) (t:KatTups h vs fs) (hl:fs.length=vs.length) (hf: ∀f∈fs,∃x r,AV.tup (x::r)∈l/\RepV G.w.params P x f)
theorem H6(hp:P.le s.heap.get?)(r:RepL G.w.params P l vs)(h: ∀a∈l,∃x r,a= .tup (x::r)):WX P s.heap l vs:=by
 induction l generalizing vs with
 |nil=>cases r;exact⟨[],KatTups.nil,rfl,λω h=>nomatch h⟩
 |cons a l ih=>
  obtain⟨x,r',rfl⟩:=h _ (.head _)
  cases r using RepL.consE with |cons r k=>
  obtain⟨fs,t,hl,hf⟩:=ih k λa ha=>h a (.tail _ ha)
  cases r using RepV.tupE with | @tup c items n e rl=>
  cases hi:items.toList with
  |nil=>rw[hi] at rl;cases rl
  |cons f fr=>
   rw[hi] at rl
   cases rl using RepL.consE with |cons rx _=>
   exact⟨f::fs,.cons (hp _ _ e) rfl rfl (by rw[<- dR,hi];rfl) t,congrArg (· +1) hl,λg hg=>(aY.mp hg).elim (λq=>⟨x,r',.head _,q▸rx⟩) λhg=>
    let⟨x',D6,q,rq⟩:=hf g hg;⟨x',D6,.tail _ q,rq⟩⟩
theorem Rx(hp:P.le s.heap.get?)(r:RepV G.w.params P (.tup l) v):Looks GM s.heap (typeOf v) (.type "tuple"):=by
 cases r using RepV.tupE with
 |tup e rl=>exact(Looks.ld (hp _ _ e)).andThen .now
theorem BR(r:RepL G.w.params P l vs){κ:fV}(h: ∀a∈l,∀b∈l,∀u v,RepV G.w.params P a u->RepV G.w.params P b v-> ∀(E:Value->Shared->Prop) (Q:Bool->Shared->Prop),(∀b,Q b s)->ai GM A (keyLt' κ u v) Q E s):gq G.prog G.w A κ s (uR vs):=λx hx y hy E Q hq=>
 let⟨a,ha,ra⟩:=r.mem _ (F6 (AG vs▸hx.val)).2
 let⟨b,hb,rb⟩:=r.mem _ (F6 (AG vs▸hy.val)).2
 h a ha b hb _ _ ra rb E Q hq
theorem IW(hp:P.le s.heap.get?)(r:RepL G.w.params P l vs)(O:kJ l)(hu:A.units+20<cLine)(bb:Bool)(hh: ∀a∈l,∃x r,a= .tup (x::r)/\(bb=true-> ∃z,x= .str z)):gq G.prog G.w A (tuples' bb) s (uR vs):=BR r λa ha b hb u v ra rb E Q hq=>by
 have hc:=O.cmp a ha b hb
 have da:=O.dat a ha
 have db:=O.dat b hb
 obtain⟨x,r1,rfl,hx⟩:=hh a ha
 obtain⟨y,r2,rfl,hy⟩:=hh b hb
 cases ra using RepV.tupE with |tup e1 k1=>
 cases rb using RepV.tupE with |tup e2 k2=>
 have up: ∀{l},aM 6 (.tup l)-> ∀a∈l,aM 6 a:=λd a h=>let⟨_,e,x⟩:=BJ (p:=G.w.params) (P:=P) d a h;x.up (e▸Nat.le_succ _)
 exact kat_lt (hp _ _ e1) rfl (hp _ _ e2) rfl (UI hp (k:=6) (Nat.lt_of_le_of_lt (Nat.add_le_add_left (by decide) _) hu) hq _ _ _ _ 0 k1 k2 (up da) (up db) hc λzD ω=>let⟨z,e⟩:=hx zD;let⟨z',e'⟩:=hy zD;⟨z,z',by rw[e];rfl,by rw[e'];rfl⟩)
theorem Qq(hp:P.le s.heap.get?)(r:RepL G.w.params P l vs)(O:kJ l)(h2:2<=vs.length)(hu:A.units+20<cLine){Q:fV->Shared->Prop}(h: ∀κ,gq G.prog G.w A κ s (uR vs)->Q κ s):
  ai GM A (keyKind' vs.toArray) Q E s:=by
 have K:=O.kind
 induction K with
 |Kt hh=>
  refine kas_kind (T:= .type "int") h2 (λv hv=>?_) (by decide) (by decide) (h _ (BR r λa ha b hb u v ra rb E Q hq=>?_))
  .obtain⟨a,ha,ra⟩:=r.mem v hv
   obtain⟨i,rfl⟩:=hh a ha
   cases ra
   exact .now
  .obtain⟨i,rfl⟩:=hh a ha
   obtain⟨j,rfl⟩:=hh b hb
   cases ra;cases rb
   exact kat_lt_int (hq _)
 |Ku hh=>
  refine kas_kind (T:= .type "str") h2 (λv hv=>?_) (by decide) (by decide) (h _ (BR r λa ha b hb u v ra rb E Q hq=>?_))
  .obtain⟨a,ha,ra⟩:=r.mem v hv
   obtain⟨i,rfl⟩:=hh a ha
   cases ra
   exact .now
  .obtain⟨i,rfl⟩:=hh a ha
   obtain⟨j,rfl⟩:=hh b hb
   cases ra;cases rb
   exact kas_lt_str (hq _)
 |Dm hh=>
  obtain⟨fs,t,hl,hf⟩:=H6 hp r λa ha=>let⟨x,r',e⟩:=hh a ha;⟨_,r',e⟩
  refine kat_kind (T:= .type "str") t (hl▸Nat.lt_of_lt_of_le Nat.zero_lt_two h2) (λv hv=>?_) (by decide) (h _ (IW hp r O hu _ λa ha=>let⟨x,r',e⟩:=hh a ha;⟨_,r',e,λω=>⟨x,rfl⟩⟩))
  obtain⟨x,r',hm,rx⟩:=hf v hv
  obtain⟨z,D6,q⟩:=hh _ hm
  cases (eC (AV.tup.inj q)).1
  cases rx
  exact .now
 |Kv hh=>
  obtain⟨fs,t,hl,hf⟩:=H6 hp r λa ha=>let⟨x,r',e⟩:=hh a ha;⟨_,r',e⟩
  refine kat_kind (T:= .type "tuple") t (hl▸Nat.lt_of_lt_of_le Nat.zero_lt_two h2) (λv hv=>?_) (by decide) (h _ (IW hp r O hu _ λa ha=>let⟨x,r',e⟩:=hh a ha;⟨_,r',e,λzD=>nomatch zD⟩))
  obtain⟨x,r',hm,rx⟩:=hf v hv
  obtain⟨z,D6,q⟩:=hh _ hm
  cases (eC (AV.tup.inj q)).1
  exact Rx hp rx
end
section
variable{n:Nat}{X P:PM}{σ:ah}{s:Shared}{A:bo}{E:Value->Shared->Prop}{Q:AV->ah->Prop}
theorem Pi{D:Addr}{c:Nat}{R:PySem.Fin->Shared->Prop}(hp:P.le s.heap.get?)(hD:P D=none)(ho:s.heap.get? D=some (cw vs.toArray c))(r:RepL G.w.params P l vs)(O:2<=l.length->kJ l)(hz:l.length<=sizeLine)(hu:A.units+20<cLine)
  (h: ∀h' out vs' c',(∀b o,b≠D->s.heap.get? b=some o->h'.get? b=some o)->h'.get? D=some (cw vs'.toArray c')->RepL G.w.params P out vs'->(∀a∈out,a∈l)->out.length=l.length->(l.length<64->out.Perm l)->R (.done (.ret .none)) {s with heap:=h'}):
  ai GM A (cF.«list.sort» ⟨[.ref D],[]⟩) R E s:=by
 have hl:l.length=vs.length:=r.length
 have s1:=Heap.SameBut.update s.heap D (Obj.mapSeq λω=>(#[]:ay Value))
 obtain⟨e1,zE⟩:=nB (λω=>(#[]:ay Value)) ho
 refine gn (((s.heap.update D (Obj.mapSeq λω=>(#[]:ay Value))).push (lu "tuple" vs.toArray 0)).push (lu "list" #[] 0)) λh3 D7=>?_
 have wH:h3.get? D=some (cw #[] e1):=by rw[<- D7];exact Heap.get?_push_of_some _ (Heap.get?_push_of_some _ zE)
 have k3: ∀b o,b≠D->s.heap.get? b=some o->h3.get? b=some o:=λb o hb e=>by
  rw[<- D7];exact Heap.get?_push_of_some _ (Heap.get?_push_of_some _ ((s1.2 b hb).trans e))
 have YI:P.le h3.get?:=λb o e=>k3 b o (λq=>by rw[q,hD] at e;cases e) (hp b o e)
 rw[list_sort_plain]
 refine wb (listItems_at ho rfl ?_)
 refine wb (OT ho rfl ?_ (by rw[rS,<- hl];lia) (Nat.zero_le _))
 refine wb (seqEpoch_at zE rfl ?_)
 refine wb (xy ?_ (by show vs.length<=_;lia))
 refine wb (ON ?_ (Nat.zero_le _))
 refine cq ?_
 show ai GM A _ R E {s with heap:=((s.heap.update D (Obj.mapSeq λω=>(#[]:ay Value))).push (lu "tuple" vs.toArray 0)).push (lu "list" #[] 0)}
 rw[D7]
 dsimp only
 have fin: ∀(an:aG),se an=none->(cG an).size=vs.length->(∀v∈((cG an).map (·.2)).toList,v∈vs)->(vs.length<64->((cG an).map (·.2)).toList.Perm vs)->
   ai GM A (do
    let touched:=(<- seqEpoch D) != e1
    cF.List.listUpdate (.ref D) λω=>(cG an).map (·.2)
    if let some e:=se an then rule "list.sort.comparison-raised";throw e
    if touched then rule "list.sort.modified";raiseError "ValueError" "list modified during sort"
    ret .none) R E {s with heap:=h3}:=by
  intro an hf iI vU fM
  refine wb (seqEpoch_at wH rfl ?_)
  have D8:((cG an).map (·.2)).size<=sizeLine+1:=by rw[AH,iI,<- hl];lia
  refine wb (OT wH rfl ?_ (Nat.zero_le _) D8)
  rw[hf]
  simp only[N7,Bool.false_eq_true,if_false]
  obtain⟨c2,tG⟩:=nB (λω=>(cG an).map (·.2)) wH
  have s2:=Heap.SameBut.update h3 D (Obj.mapSeq λω=>(cG an).map (·.2))
  have hlen:((cG an).map (·.2)).toList.length=l.length:=by rw[ck,AH,iI,hl]
  have keep: ∀b o,b≠D->s.heap.get? b=some o->(h3.update D (Obj.mapSeq λω=>(cG an).map (·.2))).get? b=some o:=λb o hb e=>(s2.2 b hb).trans (k3 b o hb e)
  by_cases tA:vs.length<64
  .obtain⟨out,ro,po⟩:=r.perm (fM tA).symm
   exact aq (h _ out _ c2 keep (by rw[xn];exact tG) ro (λa ha=>po.mem_iff.mp ha) po.length_eq λω=>po)
  .obtain⟨out,so,ro⟩:=RepL.pick (p:=G.w.params) (P:=P) (l:=l) (vs':=((cG an).map (·.2)).toList) (λv hv=>r.mem v (vU v hv))
   exact aq (h _ out _ c2 keep (by rw[xn];exact tG) ro so (ro.length.trans hlen) λq=>ax (hl▸q) tA)
 have V2: ∀x∈uR vs,x.2∈vs:=λx hx=>by
  obtain⟨q1,q2⟩:=F6 (by rw[<- AG];exact hx.val)
  exact q1▸q2
 by_cases q7:vs.toArray.size<2
 .rw[if_pos q7,if_pos q7]
  refine wb (aq ?_)
  refine wb ?_
  rw[cW.run_pure]
  refine aq ?_
  have e:((cG (xJ general' (vs.toArray.zip vs.toArray) #[] 7 none)).map (·.2)).toList=vs:=by
   show((vs.toArray.zip vs.toArray).map (·.2)).toList=vs
   rw[FD,ay.toList_zip]
   exact Oj (Nat.le_refl _)
  refine fin _ rfl (by show(vs.toArray.zip vs.toArray).size=_;simp) (λv hv=>by rw[e] at hv;exact hv) (λω=>by rw[e])
 .rw[aK q7,aK q7]
  have Kw:2<=vs.length:=by simpa using q7
  refine wb (Qq (s:={s with heap:=h3}) YI r (O (by lia)) Kw hu λκ C=>?_)
  have W0:WB (uR vs) κ (xJ κ (vs.toArray.zip vs.toArray) #[] 7 none):=⟨rfl,λx hx=>hx,λω=> .refl _,rfl,rfl⟩
  have run:=w_sortRuns (E:=λω ω=>False) (Q:=λω an=>WB (uR vs) κ an) C W0 rfl (by rw[FY];exact Kw) λan B=>B
  unfold cC at run
  refine cS (bT run ?_ λω ω x=>x.elim)
  rintro⟨⟨⟩,an⟩ s' ⟨rfl,B⟩
  dsimp only
  refine fin an B.failed (by rw[B.size,FY]) (λv hv=>?_) (λtA=>?_)
  .rw[FD,aU] at hv
   obtain⟨x,hx,rfl⟩:=hv
   exact V2 x (B.sub x (by simpa using hx))
  .have:=(ay.perm_iff_toList_perm.mp (B.small (by rw[FY];exact tA))).map (·.2)
   rw[AG] at this
   rw[FD]
   refine this.trans ?_
   have e:(vs.zip vs).map (·.2)=vs:=Oj (Nat.le_refl _)
   rw[e]
def qy(P:PM)(s:Shared)(v:Value)(LP:ae AV->Prop):Prop:=
 ∀(A:bo) (E:Value->Shared->Prop) (Q:ae Value->Shared->Prop),A.handled=none->A.units+40<cLine->
  (∀P' h' t d L vs,f8 P P' s.heap->P'.le h'.get?->LP L->RepL G.w.params P' L vs->(∀b o,s.heap.get? b=some o->h'.get? b=some o)->Q vs {s with heap:=h',toks:=t,drawn:=d})->ai GM A (collect v) Q E s
def qD(LP:ae AV->Prop)(OP:ae AV->ae AV->Prop):Prop:=
 ∀{P:PM} {s:Shared} {A:bo} {E:Value->Shared->Prop} {D:Addr} {vs:ae Value} {c:Nat} {l:ae AV} {R:PySem.Fin->Shared->Prop},P.le s.heap.get?->P D=none->s.heap.get? D=some (cw vs.toArray c)->RepL G.w.params P l vs->LP l->A.units+20<cLine->
  (∀h' out vs' c',(∀b o,b≠D->s.heap.get? b=some o->h'.get? b=some o)->h'.get? D=some (cw vs'.toArray c')->RepL G.w.params P out vs'->OP l out->R (.done (.ret .none)) {s with heap:=h'})->
  ai GM A (cF.«list.sort» ⟨[.ref D],[]⟩) R E s
theorem r4(LP:ae AV->Prop)(hO: ∀L,LP L->(2<=L.length->kJ L)/\L.length<=sizeLine):qD LP (λL out=>(∀a∈out,a∈L)/\out.length=L.length/\(L.length<64->out.Perm L)):=
 λhp hD ho r lp hu h=>Pi hp hD ho r (hO _ lp).1 (hO _ lp).2 hu λh' out vs' c' k gG r' a b d=>h h' out vs' c' k gG r' ⟨a,b,d⟩
theorem ints_of{P:PM}(r:RepL G.w.params P l vs):(∀a∈l,∃i,a= .int i)-> ∃ns,l=ns.map .int/\IntsAre vs ns:=by
 induction r using RepL.ind with
 |h0=>exactλω=>⟨[],rfl,.nil⟩
 |h1 r k ih=>
  intro h
  obtain⟨i,rfl⟩:=h _ (.head _)
  obtain⟨ns,rfl,q⟩:=ih λa ha=>h a (.tail _ ha)
  cases r using RepV.intE with
  |int t=>exact⟨i::ns,rfl,.cons _ _ q⟩
theorem Ry{P:PM}(h:IntsAre vs ns):RepL G.w.params P (ns.map .int) vs:=by
 induction h with
 |nil=>exact .nil
 |cons _ _ _ ih=>exact .cons (.int _ _) ih
theorem Gq(LP:ae AV->Prop)(hO: ∀L,LP L->(∀a∈L,∃i,a= .int i)/\L.length<64):qD LP (λL out=> ∃ns:ae aj,out=ns.map .int/\ns.Pairwise (· <= ·)/\out.Perm L):=by
 intro P s A E D vs c l R hp hD ho r lp hu h
 obtain⟨h1,h2⟩:=hO l lp
 obtain⟨ns,rfl,q⟩:=ints_of r h1
 refine list_sort_tree ho q (by rw[<- r.length];exact h2) λout wI ha pm pw=>?_
 unfold sortedHeap
 have s1:=Heap.SameBut.update s.heap D (Obj.mapSeq λω=>(#[]:ay Value))
 obtain⟨e1,zE⟩:=nB (λω=>(#[]:ay Value)) ho
 have wH:=Heap.get?_push_of_some (lu "list" #[] 0) (Heap.get?_push_of_some (lu "tuple" vs.toArray 0) zE)
 obtain⟨c2,tG⟩:=nB (λω=>out) wH
 have s2:=Heap.SameBut.update (((s.heap.update D (Obj.mapSeq λω=>(#[]:ay Value))).push (lu "tuple" vs.toArray 0)).push (lu "list" #[] 0)) D (Obj.mapSeq λω=>out)
 refine h _ (wI.map .int) out.toList c2 (λb o hb e=>(s2.2 b hb).trans (Heap.get?_push_of_some _ (Heap.get?_push_of_some _ ((s1.2 b hb).trans e)))) (by rw[xn];exact tG) (Ry ha) ⟨wI,rfl,pw,pm.map _⟩
theorem Pj(S:qD LP OP)(K:qy P s v LP)(hh:A.handled=none)(hu:A.units+60<cLine)(hO: ∀L,LP L->L.length<=sizeLine){Q:Value->Shared->Prop}
  (h: ∀P' h' t d L out D vs' c,f8 P P' s.heap->P'.le h'.get?->P' D=none->LP L->RepL G.w.params P' out vs'->h'.get? D=some (cw vs'.toArray c)->OP L out->
   (∀b o,s.heap.get? b=some o->h'.get? b=some o)->s.heap.get? D=none->Q (.ref D) {s with heap:=h',toks:=t,drawn:=d}):
  ai GM A (call (.builtin "sorted") [v]) Q E s:=by
 refine call_function_entry kind_sorted plain_sorted entry_sorted (args_sorted1 _) ?_
 unfold cF.«sorted»
 refine wb (m:=checkCount "sorted" 1 1 _) (aq ?_)
 refine wb (K A.in1 _ _ (by simp[hh]) (by show A.units+1+40<_;lia) λP' h' t d L vs g cZ lp r hk=>?_)
 have o2:=hO L lp
 refine wb (ON ?_ (by show vs.length<=_;rw[<- r.length];exact o2))
 have hN:P' h'.objs.size=none:=by
  cases q:P' h'.objs.size with
  |none=>rfl
  |some o=>exact ax (Heap.lt_size (cZ _ _ q)) (Nat.lt_irrefl _)
 have LG:(h'.push (lu "list" vs.toArray 0)).get? h'.objs.size=some (cw vs.toArray 0):=Heap.get?_push_size _ rfl
 refine wb (cq (dY slot_list_sort ⟨_,LG,rfl⟩ entry_list_sort ?body (args_list_sort _)))
 case body=>
  refine S (s:={s with heap:=h'.push (lu "list" vs.toArray 0),toks:=t,drawn:=d}) (λb o e=>Heap.get?_push_of_some _ (cZ b o e)) hN LG r lp (by show A.units+1+1+20<_;lia) λmT out vs' c' k ho ro so=>?_
  refine⟨_,rfl,aq ⟨_,rfl,?_⟩⟩
  have kk: ∀b o,h'.get? b=some o->mT.get? b=some o:=λb o e=>k b o (Nat.ne_of_lt (Heap.lt_size e)) (Heap.get?_push_of_some _ e)
  refine h P' mT t d L out h'.objs.size vs' c' g (λb o e=>kk b o (cZ b o e)) hN lp ro ho so (λb o e=>kk b o (hk b o e)) ?_
  cases q:s.heap.get? h'.objs.size with
  |none=>rfl
  |some o=>exact ax (Heap.lt_size (hk _ _ q)) (Nat.lt_irrefl _)
set_option tactic.hygienic true in
theorem A0(S:qD LP OP)(K:qy P s v LP)(hA:cT n A)(I:bD X P σ s)(hO: ∀L,LP L->L.length<=sizeLine)
  (h: ∀L out,LP L->OP L out->Q (.lst out) σ):ai GM A (call (.builtin "sorted") [v]) (aC (bD X) P (RepV G.w.params) Q) (λω ω=>False) s:=by
 have hu:=hA.units
 refine Pj S K hA.handled (by unfold cLine;lia) hO λP' h' t d L out D vs' c g cZ hD lp ro ho so hk hs=>?_
 have I':=I.more (t:=t) (d:=d) hk g cZ
 have hX:X D=none:=by
  cases q:X D with
  |none=>rfl
  |some o=>have:=I.x _ _ q;rw[hs] at this;cases this
 have f_:σ D=none:=by
  cases q:σ D with
  |none=>rfl
  |some o=>obtain⟨o',e,_⟩:=I.st _ _ q;rw[hs] at e;cases e
 have hle:P'.le (λb=>if b=D then some (cw vs'.toArray c) else P' b):=λb o' e=>by
  show(if _ then _ else _)=_
  split
  .rename_i q;subst q;rw[hD] at e;cases e
  .exact e
 refine⟨λb=>if b=D then some (cw vs'.toArray c) else P' b,σ,.lst out,g.1.trans hle,⟨I'.same,λb o e=>hle _ _ (I'.base b o e),I'.x,λb o e=>?_,λb ao e=>?_,λb e=>?_,λb e=>?_,I'.ns⟩,.lst (items:=vs'.toArray) (n:=c) (by simp;rfl) (by simpa using ro.mono hle),h L out lp so⟩
 .split at e
  .rename_i q;subst q;cases e;exact ho
  .exact I'.p b o e
 .obtain⟨o,gG,r⟩:=I'.st b ao e;exact⟨o,gG,r.mono hle⟩
 .refine⟨(I'.off b e).1,?_⟩
  split
  .rename_i q;subst q;exact ax f_ e
  .exact(I'.off b e).2
 .split
  .rename_i q;subst q;exact ax hX e
  .exact I'.xp b e
theorem Bu(S:qD LP OP)(K: ∀X P s v,bD X P σ s->RepV G.w.params P a v->qy P s v LP)(hO: ∀L,LP L->L.length<=sizeLine)
  (h: ∀L out,LP L->OP L out->Q (.lst out) σ):cK n (.builtin "sorted") [a] σ Q:=by
 intro A X P s vs hA I r
 cases r using RepL.consE with |cons ra r=>
 cases r
 exact A0 S (K X P s _ I ra) hA I hO h
theorem Gf(L:eT σ a l)(hz:l.length<=sizeLine): ∀X P s v,bD X P σ s->RepV G.w.params P a v->qy P s v (λL=>L=l):=by
 intro X P s v I r A E Q hh hu h
 obtain⟨d,items,k,rfl,ho,rl⟩:=L.is I r
 have e1:items.size=l.length:=by rw[<- ck,<- rl.length]
 refine collect_list (l:=d) (vs:=items.toList) ⟨_,ho,rfl,k,by rw[xn];rfl⟩ ?_ (by rw[ck];lia)
 have iI:(s.heap.push (lu "list" #[] 0)).objs.size=s.heap.objs.size+1:=Heap.size_push ..
 have keep: ∀b o,s.heap.get? b=some o->((s.heap.push (lu "list" #[] 0)).update s.heap.objs.size (Obj.mapSeq (· ++items))).get? b=some o:=λb o q=>by
  have bj:b<s.heap.objs.size:=Heap.lt_size q
  rw[Heap.get?_update_ne _ _ _ _ (Nat.ne_of_lt bj),Heap.get?_push_ne _ _ _ (Nat.ne_of_lt bj)]
  exact q
 rw[xn]
 exact h P _ s.toks s.drawn l items.toList (f8.refl P _) (λb o e=>keep b o (I.p b o e)) rfl rl keep
end
theorem Os:entryFor table "set.__iter__"=some cF.«frozenset.__iter__»:=
 entryFor_alias (id':="frozenset.__iter__") (by kernel_rfl) rfl (by decide+kernel) (by kernel_rfl)
theorem rW:Slot "set_iterator" (Str.ofString "__next__") "set_iterator.__next__":=
 .of (owner:="set_iterator") (n:="__next__") (by rw[xv,xm];kernel_rfl) (by decide+kernel) (by decide+kernel) (by decide+kernel)
  (by first |exact .inl (by decide+kernel) |exact .inr (by decide+kernel)) (by rw[FO];kernel_rfl)
theorem Fk:entryFor table "set_iterator.__next__"=some cF.«set_iterator.__next__»:=entryFor_of_fast (by kernel_rfl)
theorem FJ(a:Value):argsOk "set_iterator.__next__" ⟨[a],[]⟩:=by unfold argsOk;kernel_rfl
theorem Pb{M:Model}{A:bo}{E:Value->Shared->Prop}{s:Shared}{src:Source}{n:Nat}{Q:Nat->Shared->Prop}(hn:n≠0)(h: ∀i d,i<n->Q i {s with drawn:=d}):ai M A (PySem.choose src n) Q E s:=
 λΓ p ω=>by
  unfold PySem.choose
  show bw.wp M Γ _ _ _ p s
  rw[bw.wp_choose]
  refine⟨hn,?_⟩
  exact h _ _ (Nat.mod_lt _ (Nat.pos_of_ne_zero hn))
theorem AQ{α:Type}: ∀(xs:ae α) (i:Nat) (x:α),xs[i]? =some x->(x::xs.eraseIdx i).Perm xs
 |a::xs,0,x,h=>by cases h;exact .refl _
 |a::xs,i+1,x,h=>(GB.swap a x _).trans ((AQ xs i x h).cons a)
theorem PF{M:Model}{A:bo}{E:Value->Shared->Prop}(n:Nat): ∀(xs:ae α) (s:Shared) {Q:ae α->Shared->Prop},xs.length<=n->(∀ys d,ys.Perm xs->Q ys {s with drawn:=d})->ai M A (drawOrder n xs) Q E s:=by
 induction n with
 |zero=>
  intro xs s Q hn h
  obtain rfl:=Nk.mp (Nat.le_zero.mp hn)
  exact aq (h [] s.drawn (.refl _))
 |succ n ih=>
  intro xs s Q hn h
  cases xs with
  |nil=>exact aq (h [] s.drawn (.refl _))
  |cons x xs=>
  show ai _ _ (choose .order (x::xs).length>>=_) Q E s
  refine cS (Pb (Nat.succ_ne_zero _) λi d hi=>?_)
  rw[cL hi]
  exact wb (ih _ _ (by rewrite [ae.length_eraseIdx_of_lt hi];exact Nat.le_of_succ_le_succ hn) λys d' hp=>aq (h _ d' ((hp.cons _).trans (AQ (x::xs) i _ (cL hi)))))
theorem Tk(next:Nat->Nat)(fuel:Nat): ∀(k:Nat) (left:ae α) (out:ay α),left.length<=fuel->(uv.go next fuel k left out).toList.Perm (out.toList++left):=by
 induction fuel with
 |zero=>
  intro k left out h
  obtain rfl:=Nk.mp (Nat.le_zero.mp h)
  exact .of_eq (lT _).symm
 |succ fuel ih=>
  intro k left out h
  cases left with
  |nil=>exact .of_eq (lT _).symm
  |cons a l=>
   have bj:next k%(a::l).length<(a::l).length:=Nat.mod_lt _ (Nat.succ_pos _)
   have e:=cL bj
   have hp:=AQ (a::l) _ _ e
   show(match(a::l)[next k%(a::l).length]? with |some x=>uv.go next fuel (k+1) ((a::l).eraseIdx (next k%(a::l).length)) (out.push x) |none=>out).toList.Perm _
   rw[e]
   refine(ih (k+1) _ _ (Nat.le_of_succ_le_succ (Nat.le_trans (Nat.le_of_eq hp.length_eq) h))).trans ?_
   rw[t6,Ay]
   exact(GB.refl _).append hp
theorem GP(next:Nat->Nat)(xs:ay α):(uv next xs).toList.Perm xs.toList:=by
 unfold uv
 exact Tk next xs.size 0 xs.toList #[] (Nat.le_refl _)
section
variable{n:Nat}{X P:PM}{σ:ah}{s:Shared}{A:bo}{E:Value->Shared->Prop}{Q:AV->ah->Prop}
noncomputable def yQ(first:Value)(k:Nat)(d n ep:Nat):Obj:={cls:= .type "set_iterator",data:= .fields #[first,cz k,.ref d,cz n,cz ep]}
inductive iC(h:Heap)(d:Addr)(es:ay (aj×Value))(ep:Nat)(t:SetTable):Value->Nat->ae Addr->ae Value->Prop
 |text {slot k:Nat} (hb:ly=true) (hk:k<=es.size):iC h d es ep t (cz slot) k [] ((((uv (G.w.params.setOrder d ep) es).toList.map (·.2))).drop k)
 |led {slot k:Nat} (hb:ly=false) (hp:t.plain=true\/es.size<=1) (hs:SetTable.below t.place slot=k) (hk:k<=es.size):iC h d es ep t (cz slot) k [] ((es.toList.map (·.2)).drop k)
 |drawn {T:Addr} {c k:Nat} {ord:ae Nat} (hT:h.get? T=some (dE (ord.map λ(i:Nat)=>cz i).toArray c)) (hk:k<=ord.length) (ho: ∀i∈ord,i<es.size):iC h d es ep t (.ref T) k [T] (((ord.filterMap λi=>es[i]?).map (·.2)).drop k)
theorem ur{I:Addr}{aD:Heap}{F:PySem.Fin->Shared->Prop}{Q:aB Value->Shared->Prop}(hh:A.handled=none)(hx:Heap.ExtBut I s.heap aD)(h: ∀h',Heap.ExtBut I s.heap h'->Q none {s with heap:=h'}):
  ai GM A.in1 (do raiseNew (<- newExc (.type "StopIteration") [])) F (λe s'=>ai GM A (do if <- isInstance e (.type "StopIteration") then pure none else throw e) Q E s') {s with heap:=aD}:=by
 refine wb ?_
 simp only[newExc,Bj]
 refine wb (iO ?_ (by size_fits))
 refine wb (m:=AK _ _) (xI (a:=Value.none) (by first |rfl |(simp only[AK];rfl)) ?_)
 refine iO ?_ (by size_fits)
 refine wpAny_raiseNew_none hh ?_
 refine wb (t8 (T:="StopIteration") (b:=true) ⟨_,Heap.get?_push_size _ rfl,rfl⟩ FL ?_)
 exact aq (h _ λb o hb e=>Heap.get?_push_of_some _ (Heap.get?_push_of_some _ (hx b o hb e)))
theorem GQ{d:Addr}{t:SetTable}{slot:Nat}{R:aB (Value×Nat)->Shared->Prop}(hd:s.heap.get? d=some (eS es ep t))(H:fy es t)(hb:ly=true)
  (h:R (((uv (G.w.params.setOrder d ep) es)[k]?).map λe=>(e.2,slot)) s):ai GM A (ql d slot k ep) R E s:=by
 have lJ:t.fits es.size=true:=H.tok.fits (H.tok.le H.room)
 unfold ql
 refine wb (rT hd rfl lJ ?_)
 dsimp only
 refine wb ?_
 unfold AZ
 refine wb (pY (aq ?_))
 refine jB (λω=>?_) (λq=>ax hb q)
 refine wp_if_no (λq=>qb.mp q rfl) ?_
 refine wb ?_
 unfold setWalk
 refine wb (rT hd rfl lJ ?_)
 dsimp only
 refine wb ?_
 unfold AZ
 refine wb (pY (aq ?_))
 refine jB (λω=>?_) (λq=>ax hb q)
 exact wb (pY (aq (aq h)))
theorem Hg{d:Addr}{t:SetTable}{slot:Nat}{R:aB (Value×Nat)->Shared->Prop}(hd:s.heap.get? d=some (eS es ep t))(H:fy es t)(hb:ly=false)(hp:t.plain=true\/es.size<=1)
  (h:R (match es[SetTable.below t.place slot]?,t.place[SetTable.below t.place slot]? with
   |some (_,x),some j=>some (x,j+1)
   |_,_=>none) s):ai GM A (ql d slot k ep) R E s:=by
 have lJ:t.fits es.size=true:=H.tok.fits (H.tok.le H.room)
 have WY:t.led=true:=by rw[H.led,show(G.w.params.followText "set-order")=false from hb];rfl
 unfold ql
 refine wb (rT hd rfl lJ ?_)
 dsimp only
 refine wb ?_
 unfold AZ
 refine wb (pY (aq ?_))
 refine jB (λq=>ax (show ly=true from q) (by rw[hb];exact Bool.false_ne_true)) (λω=>?_)
 refine jB (λhq=>?_) λω=>?_
 .exfalso
  have hq:(!t.plain&&decide (es.size>1))=true:=hq
  have hq:=Bool.and_eq_true_iff.mp hq
  rcases hp with q |q
  .exact ax hq.1 (by rw[q];exact Bool.false_ne_true)
  .exact ax (k9 hq.2) (Nat.not_lt.mpr q)
 refine wb ?_
 exact jB (λq=>ax q (by rw[WY];exact Bool.false_ne_true)) λω=>aq (aq h)
theorem Ch{α:Type}(es:ay α): ∀(l:ae Nat) (k:Nat),(∀i∈l,i<es.size)->(l.filterMap λi=>es[i]?)[k]? =(l[k]?).bind λi=>es[i]?
 |[],_,_=>rfl
 |a::l,k,h=>by
  rw[rP,p9 es a (h a (.head _))]
  cases k with
  |zero=>exact(p9 es a (h a (.head _))).symm
  |succ k=>exact Ch es l k λi hi=>h i (.tail _ hi)
theorem Bb{f:α->β}{l:ae α}(h:(l.map f).drop k=[]):l[k]? =none:=
 M0.mpr (ar f▸Aq.mp h)
theorem Bc{f:α->β}{l:ae α}{v:β}{r:ae β}(h:(l.map f).drop k=v::r):(∃x,l[k]? =some x/\f x=v)/\(l.map f).drop (k+1)=r:=by
 have q:=lc h
 rw[cP] at q
 exact⟨dA.mp q.1,q.2⟩
theorem PG{d:Addr}{t:SetTable}{p:Nat}{x:aj×Value}{R:Value->Shared->Prop}(hd:s.heap.get? d=some (eS es ep t))(H:fy es t)(e:es[p]? =some x)(h:R x.2 s):ai GM A (F0 d p ep) R E s:=by
 unfold F0
 refine cS (rT hd rfl (H.tok.fits (H.tok.le H.room)) ?_)
 dsimp only
 rw[aK λq=>qb.mp q rfl,e]
 exact aq h
theorem Rz{I d:Nat}{t:SetTable}{f:Value}{fp:ae Addr}{Q:aB Value->Shared->Prop}(hh:A.handled=none)(ho:s.heap.get? I=some (yQ f k d es.size ep))(W:iC s.heap d es ep t f k fp vs)(hv:vs=[])(hd:s.heap.get? d=some (eS es ep t))(H:fy es t)
  (h: ∀h',Heap.ExtBut I s.heap h'->Q none {s with heap:=h'}):ai GM A (cR (.ref I)) Q E s:=by
 have hT:s.TypeIs (.ref I) "set_iterator":=⟨_,ho,rfl⟩
 unfold cR
 refine wb (lq (iM (name:=Str.ofString "__next__") hT rW
  (dY rW hT Fk ?_ (FJ _))))
 show ai _ _ (fieldsOf (.ref I)>>=_) _ _ s
 refine wb (ua ho rfl ?_)
 show ai _ _ (setEntries d>>=_) _ _ s
 refine wb (Fq hd rfl (H.tok.fits (H.tok.le H.room)) ?_)
 refine wp_if_no (λq=>qb.mp q rfl) ?_
 induction W with
 | @text slot k hb hk=>
  show ai _ _ (ql d slot k ep>>=_) _ _ s
  refine wb (GQ hd H hb ?_)
  rw[<- dR,Bb hv]
  show ai _ _ (jh (.ref I) 2 .none>>=_) _ _ s
  refine wb (dX ho (Nat.le_of_ble_eq_true rfl) λaI eI cJ=>?_)
  exact ur hh cJ.extBut h
 | @led slot k hb hp hs hk=>
  show ai _ _ (ql d slot k ep>>=_) _ _ s
  refine wb (Hg hd H hb hp ?_)
  rw[hs,<- dR,Bb hv]
  show ai _ _ (jh (.ref I) 2 .none>>=_) _ _ s
  refine wb (dX ho (Nat.le_of_ble_eq_true rfl) λaI eI cJ=>?_)
  exact ur hh cJ.extBut h
 | @drawn T c k ord tH hk wJ=>
  show ai _ _ (xM (.ref T)>>=_) _ _ s
  refine cS (jC tH rfl ?_)
  have e:((ord.map λ(i:Nat)=>cz i).toArray)[(k:aj).toNat]? =none:=by
   show((ord.map λ(i:Nat)=>cz i).toArray)[k]? =none
   rw[Fi,cP]
   have e1:=Bb hv
   rw[Ch es ord k wJ] at e1
   cases q:ord[k]? with
   |none=>rfl
   |some p=>rw[q] at e1;exact ax ((p9 es p (wJ p (cO q))).symm.trans e1) nofun
  dsimp only
  rw[e]
  show ai _ _ (jh (.ref I) 0 (cz 0)>>=_) _ _ s
  refine wb (dX ho (Nat.le_of_ble_eq_true rfl) λaD ir cY=>?_)
  show ai _ _ (jh (.ref I) 2 .none>>=_) _ _ _
  refine wb (dX ir (Nat.le_of_ble_eq_true rfl) λaI eI cJ=>?_)
  exact ur (s:=s) hh (λb o hb e=>Heap.SameBut.extBut cJ b o hb (Heap.SameBut.extBut cY b o hb e)) h
theorem RA{t:SetTable}(H:t.place.toList.Pairwise (· < ·))(mU:k<t.place.size):SetTable.below t.place (t.place[k]+1)=k+1:=by
 have b:=x4 t.place (t.place[k]+1) H
 have gd: ∀{i:Nat} (hi:i<t.place.size),t.place.getD i 0=t.place[i]:=λhi=>qp t.place hi
 rcases Nat.lt_trichotomy (SetTable.below t.place (t.place[k]+1)) (k+1) with q |q |q
 .exact ax (gd mU▸b.hi k (Nat.le_of_lt_succ q) mU) (Nat.not_le.mpr (Nat.lt_succ_self _))
 .exact q
 .have hb:k+1<t.place.size:=Nat.lt_of_lt_of_le q b.le
  have h1:=gd hb▸b.lo (k+1) q
  exact ax (E8.mp H k (k+1) mU hb (Nat.lt_succ_self k)) (Nat.not_lt.mpr (Nat.le_of_lt_succ h1))
theorem RB{I d:Nat}{t:SetTable}{f:Value}{fp:ae Addr}{r:ae Value}{Q:aB Value->Shared->Prop}(ho:s.heap.get? I=some (yQ f k d es.size ep))(W:iC s.heap d es ep t f k fp vs)(hv:vs=v::r)(hd:s.heap.get? d=some (eS es ep t))(H:fy es t)(hI:I∉fp)
  (h: ∀h' f' k',h'.get? I=some (yQ f' k' d es.size ep)->iC h' d es ep t f' k' fp r->Heap.SameBut I s.heap h'->Q (some v) {s with heap:=h'}):ai GM A (cR (.ref I)) Q E s:=by
 have hT:s.TypeIs (.ref I) "set_iterator":=⟨_,ho,rfl⟩
 unfold cR
 refine wb (lq (iM (name:=Str.ofString "__next__") hT rW
  (dY rW hT Fk ?_ (FJ _))))
 show ai _ _ (fieldsOf (.ref I)>>=_) _ _ s
 refine wb (ua ho rfl ?_)
 show ai _ _ (setEntries d>>=_) _ _ s
 refine wb (Fq hd rfl (H.tok.fits (H.tok.le H.room)) ?_)
 refine wp_if_no (λq=>qb.mp q rfl) ?_
 have two: ∀{aD aI:Heap},Heap.SameBut I s.heap aD->Heap.SameBut I aD aI->Heap.SameBut I s.heap aI:=λa b=>⟨b.1.trans a.1,λc hc=>(b.2 c hc).trans (a.2 c hc)⟩
 induction W with
 | @text slot k hb hk=>
  obtain⟨⟨x,e,rfl⟩,e2⟩:=Bc hv
  rw[dR] at e
  show ai _ _ (ql d slot k ep>>=_) _ _ s
  refine wb (GQ hd H hb ?_)
  rw[e]
  show ai _ _ (jh (.ref I) 0 (cz slot)>>=_) _ _ s
  refine wb (dX ho (Nat.le_of_ble_eq_true rfl) λaD ir cY=>?_)
  show ai _ _ (jh (.ref I) 1 (cz ((k:aj)+1))>>=_) _ _ _
  refine wb (dX ir (Nat.le_of_ble_eq_true rfl) λaI eI cJ=>?_)
  refine aq ⟨_,rfl,aq (h _ (cz slot) (k+1) eI (e2▸iC.text (slot:=slot) hb ?_) (two cY cJ))⟩
  have hp:=(GP (G.w.params.setOrder d ep) es).length_eq
  rw[ck,ck] at hp
  exact hp▸(tY.mp e).1
 | @led slot k hb hp hs hk=>
  obtain⟨⟨x,e,rfl⟩,e2⟩:=Bc hv
  rw[dR] at e
  have bj:k<es.size:=(tY.mp e).1
  have mU:k<t.place.size:=by rw[H.tok.size];exact bj
  show ai _ _ (ql d slot k ep>>=_) _ _ s
  refine wb (Hg hd H hb hp ?_)
  rw[hs,e,p9 t.place k mU]
  show ai _ _ (jh (.ref I) 0 (cz ((t.place[k]+1:Nat):aj))>>=_) _ _ s
  refine wb (dX ho (Nat.le_of_ble_eq_true rfl) λaD ir cY=>?_)
  show ai _ _ (jh (.ref I) 1 (cz ((k:aj)+1))>>=_) _ _ _
  refine wb (dX ir (Nat.le_of_ble_eq_true rfl) λaI eI cJ=>?_)
  exact aq ⟨_,rfl,aq (h _ _ (k+1) eI (e2▸iC.led (slot:=t.place[k]+1) hb hp (RA H.tok.sorted mU) bj) (two cY cJ))⟩
 | @drawn T c k ord tH hk wJ=>
  obtain⟨⟨x,e,rfl⟩,e2⟩:=Bc hv
  rw[Ch es ord k wJ] at e
  obtain⟨p,LH,ex⟩:=aB.bind_eq_some_iff.mp e
  show ai _ _ (xM (.ref T)>>=_) _ _ s
  refine cS (jC tH rfl ?_)
  have ee:((ord.map λ(i:Nat)=>cz i).toArray)[(k:aj).toNat]? =some (cz p):=by
   show((ord.map λ(i:Nat)=>cz i).toArray)[k]? =some (cz p)
   rw[Fi,cP,LH];rfl
  dsimp only
  rw[ee]
  show ai _ _ (F0 d p ep>>=_) _ _ s
  refine wb (PG hd H ex ?_)
  show ai _ _ (jh (.ref I) 1 (cz ((k:aj)+1))>>=_) _ _ _
  refine wb (dX ho (Nat.le_of_ble_eq_true rfl) λaI eI cJ=>?_)
  replace cJ:Heap.SameBut I s.heap aI:=cJ
  exact aq ⟨_,rfl,aq (h _ (.ref T) (k+1) eI (e2▸iC.drawn ((cJ.2 T λq=>hI (q▸ .head _)).trans tH) (cV.mp LH).1 wJ) cJ)⟩
end
section
variable{n:Nat}{X P:PM}{σ:ah}{s:Shared}{A:bo}{E:Value->Shared->Prop}{Q:AV->ah->Prop}
theorem iC.move{d:Nat}{t:SetTable}{f:Value}{fp:ae Addr}(W:iC h d es ep t f k fp vs):(∀c∈fp,h'.get? c=h.get? c)->iC h' d es ep t f k fp vs:=
 W.rec (motive:=λf k fp vs ω=>(∀c∈fp,h'.get? c=h.get? c)->iC h' d es ep t f k fp vs) (λhb hk ω=> .text hb hk) (λhb hp hs hk ω=> .led hb hp hs hk) λhT hk ho e=> .drawn ((e _ (.head _)).trans hT) hk ho
theorem iC.there{d:Nat}{t:SetTable}{f:Value}{fp:ae Addr}(W:iC h d es ep t f k fp vs): ∀c∈fp,∃o,h.get? c=some o:=
 W.rec (motive:=λω ω fp ω ω=> ∀c∈fp,∃o,h.get? c=some o) (λω ω ω q=>nomatch q) (λω ω ω ω ω q=>nomatch q) λhT ω ω c hc=>⟨_,aW.mp hc▸hT⟩
inductive Kx(d:Addr)(es:ay (aj×Value))(ep:Nat)(t:SetTable)(I:Addr)(fp:ae Addr)(P:PM)(h:Heap)(L:ae AV):Prop
 |mk (f:Value) (k:Nat) (vs:ae Value) (eo:P d=some (eS es ep t)) (ho:h.get? I=some (yQ f k d es.size ep)) (W:iC h d es ep t f k fp vs) (rl:RepL G.w.params P L vs)
theorem IX{P:PM}{I:Addr}(h:P I=none){c:Addr}{o:Obj}(e:P c=some o):c≠I:=λq=>nos (h.symm.trans (q▸e))
theorem RC{d:Addr}{t:SetTable}{I:Addr}{fp:ae Addr}(H:fy es t)(hI:I∉fp):vW I (I::fp) (Kx d es ep t I fp) where
 next:=λ{P s A a r E Q} hp off Z h=>by
  obtain⟨f,k,vs,eo,ho,W,rl⟩:=Z
  cases rl using RepL.consE with
  |cons rv rl=>
  have f:=off I (.head _)
  exact RB ho W rfl (hp _ _ eo) H hI λh' f' k' gG W' hs=>h _ P h' s.toks (f8.refl P _) (λb o e=>(hs.2 b (IX f e)).trans (hp b o e)) rv ⟨f',k',_,eo,gG,W',rl⟩ λb o hb e=>(hs.2 b λq=>hb (q▸ .head _)).trans e
 stop:=λ{P s A E Q} hh hp off Z h=>by
  obtain⟨f,k,vs,eo,ho,W,rl⟩:=Z
  cases rl
  exact Rz hh ho W rfl (hp _ _ eo) H λh' hx=>h h' (λb o e=>hx b o (IX (off I (.head _)) e) (hp b o e)) λb o hb e=>hx b o (λq=>hb (q▸ .head _)) e
 keep:=λ{P h h' l} Z e=>Z.rec λf k vs eo ho W rl=>⟨f,k,vs,eo,(e I (.head _)).trans ho,W.move λc hc=>e c (.tail _ hc),rl⟩
 d_:=λ{P h l} Z c hc=>Z.rec λf k vs eo ho W rl=>(aY.mp hc).elim (λq=>q▸⟨_,ho⟩) λhc=>W.there c hc
theorem RD{r:Addr}{Q:Bool->Shared->Prop}(hT:s.TypeIs (.ref r) "set")(h:Q false s):ai GM A (xh (.ref r)) Q E s:=by
 unfold xh
 refine cS (lU hT PySem.F.slot_set_len.lookup ?_)
 refine gn (("set.__len__":dK)) λD9 wK=>?_
 wp_delta
 rw[show splitId D9=some ("set","__len__") from by subst wK;decide+kernel]
 subst wK
 refine wb (t8 (T:="set") (b:=true) hT (by rw[FO];kernel_rfl) ?_)
 refine jB (λfS=>ax fS (by decide)) (λω=>?_)
 refine jB (λω=>?_) (λfS=>ax (by decide+kernel) fS)
 refine wb (oy hT ?_)
 exact aq h
theorem RE{d:Addr}{t:SetTable}{Q:Value->Shared->Prop}(hp:P.le s.heap.get?)(eo:P d=some (eS es ep t))(H:fy es t)(rl:RepL G.w.params P l (es.toList.map (·.2)))(hz:es.size<=sizeLine)
  (h: ∀I fp h' t' dd L,I∉fp->(∀c∈I::fp,s.heap.get? c=none)->(∀b o,s.heap.get? b=some o->h'.get? b=some o)->Kx d es ep t I fp P h' L->L.Perm l->Q (.ref I) {s with heap:=h',toks:=t',drawn:=dd}):ai GM A (hW (.ref d)) Q E s:=by
 have hd:=hp _ _ eo
 have hT:s.TypeIs (.ref d) "set":=⟨_,hd,rfl⟩
 have lJ:t.fits es.size=true:=H.tok.fits (H.tok.le H.room)
 have fresh:s.heap.get? s.heap.objs.size=none:=by
  cases q:s.heap.get? s.heap.objs.size with
  |none=>rfl
  |some o=>exact ax (Heap.lt_size q) (Nat.lt_irrefl _)
 refine AA hT PySem.F.slot_set_iter (dY PySem.F.slot_set_iter hT Os ?_ (PySem.F.args_set_iter_1 _))
 show ai _ _ (Nb d>>=_) _ _ s
 unfold Nb
 refine wb (wb (Fq hd rfl lJ (aq ?_)))
 have Tl: ∀{R:Bool->Shared->Prop},R (!(ly)&&(!t.plain&&decide (es.size>1))) s->ai GM A.in1 (setDrawn d) R (λe s'=>E e s') s:=by
  intro R hR
  unfold setDrawn
  refine wb (rT hd rfl lJ ?_)
  dsimp only
  refine wb ?_
  unfold AZ
  exact wb (pY (aq (aq hR)))
 have H7: ∀{R:Nat->Shared->Prop} {s':Shared},s'.heap.get? d=some (eS es ep t)->R ep s'->ai GM A.in1 (setEpoch d) R (λe s'=>E e s') s':=by
  intro R s' iH hR
  unfold setEpoch
  exact wb (rT iH rfl lJ (aq hR))
 show ai _ _ (setDrawn d>>=_) _ _ s
 refine wb (Tl ?_)
 by_cases hf:(!(ly)&&(!t.plain&&decide (es.size>1)))=true
 .rw[hf]
  show ai _ _ (drawOrder es.size (c7 es.size)>>=_) _ _ _
  refine wb (PF es.size _ _ (by simp) λord dd cZ=>?_)
  have re:ord.length=es.size:=by rw[cZ.length_eq];simp
  refine wb (xy ?_ (by rw[ar,re];exact hz))
  have V3:=Heap.get?_push_of_some {cls:=Value.type "tuple",data:= .seq (ord.map λ(i:Nat)=>cz i).toArray} hd
  refine wb (H7 V3 ?_)
  refine wb (iO ?_)
  have tH:(s.heap.push (dE (ord.map λ(i:Nat)=>cz i).toArray 0)).get? s.heap.objs.size=some (dE (ord.map λ(i:Nat)=>cz i).toArray 0):=Heap.get?_push_size _ rfl
  have zI:(s.heap.push (dE (ord.map λ(i:Nat)=>cz i).toArray 0)).objs.size=s.heap.objs.size+1:=Heap.size_push ..
  have pm:(ord.filterMap λi=>es[i]?).Perm es.toList:=FQ es cZ
  obtain⟨L,rL,pL⟩:=RepL.perm (pm.symm.map (·.2)) rl
  refine aq ⟨_,rfl,"set_iterator",_,⟨_,Heap.get?_push_size _ rfl,rfl⟩,rW.lookup,?_⟩
  refine h _ [s.heap.objs.size] _ s.toks dd L ?_ ?_ (λb o e=>Heap.get?_push_of_some _ (Heap.get?_push_of_some _ e)) ⟨_,_,_,eo,Heap.get?_push_size _ rfl,.drawn (T:=s.heap.objs.size) (c:=0) (k:=0) (ord:=ord) (Heap.get?_push_of_some _ tH) (Nat.zero_le _) (λi hi=>by simpa using cZ.mem_iff.mp hi),by simpa using rL⟩ pL
  .intro hm
   simp at hm
  .intro c hc
   rcases aY.mp hc with rfl |hc
   .cases q:s.heap.get? (s.heap.push (dE (ord.map λ(i:Nat)=>cz i).toArray 0)).objs.size with
    |none=>exact q
    |some o=>
     have h1:(s.heap.push (dE (ord.map λ(i:Nat)=>cz i).toArray 0)).objs.size<s.heap.objs.size:=Heap.lt_size q
     rw[zI] at h1
     exact ax h1 (by lia)
   .simp at hc;subst hc;exact fresh
 .rw[Bool.eq_false_iff.mpr hf]
  refine wb (aq ?_)
  refine wb (H7 hd ?_)
  refine wb (iO ?_)
  refine aq ⟨_,rfl,"set_iterator",_,⟨_,Heap.get?_push_size _ rfl,rfl⟩,rW.lookup,?_⟩
  have off:s.heap.objs.size∉([]:ae Addr):=λhm=>by cases hm
  have fr: ∀c∈[s.heap.objs.size],s.heap.get? c=none:=λc hc=>by simp at hc;subst hc;exact fresh
  cases hb:ly with
  |true=>
   obtain⟨L,rL,pL⟩:=RepL.perm ((GP (G.w.params.setOrder d ep) es).symm.map (·.2)) rl
   exact h _ [] _ s.toks s.drawn L off fr (λb o e=>Heap.get?_push_of_some _ e) ⟨_,_,_,eo,Heap.get?_push_size _ rfl,.text (slot:=0) (k:=0) hb (Nat.zero_le _),by simpa using rL⟩ pL
  |false=>
   have cZ:t.plain=true\/es.size<=1:=by
    rw[hb] at hf
    cases mU:t.plain with
    |true=>exact .inl rfl
    |false=>rw[mU] at hf;simp at hf;exact .inr (by lia)
   have h0:SetTable.below t.place 0=0:=by
    obtain⟨b1,b2,b3⟩:=x4 t.place 0 H.tok.sorted
    rcases Nat.eq_zero_or_pos (SetTable.below t.place 0) with q |q
    .exact q
    .exact ax (b1 0 q) (Nat.not_lt_zero _)
   exact h _ [] _ s.toks s.drawn l off fr (λb o e=>Heap.get?_push_of_some _ e) ⟨_,_,_,eo,Heap.get?_push_size _ rfl,.led (slot:=0) (k:=0) hb cZ h0 (Nat.zero_le _),by simpa using rl⟩ (.refl _)
theorem Tm{d:Addr}{t:SetTable}(eo:P d=some (eS es ep t))(H:fy es t)(rl:RepL G.w.params P l (es.toList.map (·.2)))(hz:l.length<=sizeLine):wF P "set" d (λL=>L.Perm l) where
 notList:=by decide
 notTuple:=by decide
 type:=λs hp=>⟨_,hp _ _ eo,rfl⟩
 hint:=λA E s Q hp hq=>RD ⟨_,hp _ _ eo,rfl⟩ hq
 iter:=λA s E Q hp h=>by
  have e1:es.size=l.length:=by have:=rl.length;simp at this;lia
  exact RE hp eo H rl (by lia) λI fp h' t' dd L hI wG hk Z pL=>h I (I::fp) _ h' t' dd L (RC H hI) wG hk Z pL
 there:=⟨_,eo⟩
set_option tactic.hygienic true in
theorem AR{d:Addr}(hd:σ d=some (.set l))(S:qD (λL=>L.Perm l) OP)(hz:l.length<=sizeLine)
  (h: ∀L out,L.Perm l->OP L out->Q (.lst out) (fP σ d)):cK n (.builtin "sorted") [.raw (.ref d)] σ Q:=by
 intro A X P s vs hA I r
 cases r using RepL.consE with |cons ra r=>
 cases r;cases ra
 refine I.freeze hd λo aJ ro gS=>?_
 have Dn:=iS P d o
 cases ro with
 |set k rl=>
  rename_i es ep t
  have K:qy (jY P d _) s (.ref d) (λL=>L.Perm l):=λA E Q hh hu h=>AX (Tm Dn k (rl.mono aJ) hz) (λL hL=>by rw[hL.length_eq];exact hz) hh gS.p h
  refine aC.with (A0 S K hA gS (λL hL=>by rw[hL.length_eq];exact hz) h) λv s' P' σ' a hP T' r q=>⟨P',σ',a,aJ.trans hP,T',r,q⟩
end
section
variable{n:Nat}{X P:PM}{σ:ah}{s:Shared}{A:bo}{E:Value->Shared->Prop}{Q:AV->ah->Prop}
noncomputable def uJ(d i n ep:Nat):Obj:={cls:= .type "dict_keyiterator",data:= .fields #[.ref d,cz i,cz n,cz ep]}
noncomputable def qf(f0 f1:Value)(d i n ep:Nat)(ok ov:Value):Obj:={cls:= .type "dict_itemiterator",data:= .fields #[f0,f1,.ref d,cz i,cz n,cz ep,ok,ov]}
theorem oK{n:Nat}: ¬((n:aj) != (n:aj))=true:=λh=>qb.mp h rfl
theorem H8{es:ay DictEntry}(hi:i<es.size):(if(i:aj)<0 then none else es[(i:aj).toNat]?)=some es[i]:=(aK (uq.mpr (gf i))).trans (pV hi)
theorem GR{es:ay DictEntry}(hi:es.size<=i):(if(i:aj)<0 then none else es[(i:aj).toNat]?)=none:=(aK (uq.mpr (gf i))).trans (Am hi)
theorem Tn{d:Nat}{es:ay DictEntry}{Q:Value->Shared->Prop}(hd:(d==um)=false)(ho:s.heap.get? d=some (bZ es ep))
  (hQ:Q (.ref s.heap.objs.size) {s with heap:=s.heap.push (uJ d 0 es.size ep)}):ai GM A (hW (.ref d)) Q E s:=by
 have hT:s.TypeIs (.ref d) "dict":=⟨_,ho,rfl⟩
 refine AA hT F.slot_dict_iter (dY F.slot_dict_iter hT F.entry_dict_iter ?_ (F.args_dict_iter_1 _))
 unfold cF.«dict.__iter__»
 refine wb ?_
 unfold cF.Dict.dictSlotNone
 refine wb (t4 hT ?_)
 show ai _ _ (pure (Value.ref d)) _ _ s
 refine aq ?_
 show ai _ _ (Ao d>>=_) _ _ s
 unfold Ao
 rw[aK (by rw[hd];exact Bool.false_ne_true)]
 refine wb (aq ?_)
 refine wb (ou ho rfl ?_)
 refine wb (t9 ho rfl ?_)
 exact wb (iO (aq ⟨_,rfl,"dict_keyiterator",_,⟨_,Heap.get?_push_size _ rfl,rfl⟩,F.slot_dict_keyiterator_next.lookup,hQ⟩))
theorem To{it d:Nat}{es:ay DictEntry}{Q:aB Value->Shared->Prop}(hit:s.heap.get? it=some (uJ d i es.size ep))(ho:s.heap.get? d=some (bZ es ep))(hi:i<es.size)
  (hQ: ∀h',h'.get? it=some (uJ d (i+1) es.size ep)->Heap.SameBut it s.heap h'->Q (some es[i].key) {s with heap:=h'}):ai GM A (cR (.ref it)) Q E s:=by
 have hT:s.TypeIs (.ref it) "dict_keyiterator":=⟨_,hit,rfl⟩
 unfold cR
 refine wb (lq (iM (name:=Str.ofString "__next__") hT F.slot_dict_keyiterator_next
  (dY F.slot_dict_keyiterator_next hT F.entry_dict_keyiterator_next ?_ (F.args_dict_keyiterator_next_1 _))))
 refine wb (aq ?_)
 refine wb ?_
 refine wb ?_
 first |refine wb (Ae hT (aq ?_)) |refine wb (Aj hT (aq ?_))
 refine wb (ua hit rfl ?_)
 refine wp_if_no (c:=(Value.ref d==Value.none)=true) Bool.false_ne_true ?_
 refine wb (aq ?_)
 refine wb (ou ho rfl ?_)
 refine wp_if_no oK ?_
 refine wb (aq ?_)
 refine wb (t9 ho rfl ?_)
 refine wp_if_no oK ?_
 refine aq ?_
 dsimp only[KB]
 rw[H8 hi]
 refine wb ?_
 first |refine wb (Ae hT (aq ?_)) |refine wb (Aj hT (aq ?_))
 refine wb (Nz hT ?_)
 show ai _ _ (jh (.ref it) 1 (cz ((i:aj)+1))>>=_) _ _ s
 refine wb (dX hit (Nat.le_of_ble_eq_true rfl) λh' tF eX=>?_)
 refine wb (cq ?_)
 refine wb (Nz (s:={s with heap:=h'}) ⟨_,tF,rfl⟩ ?_)
 show ai _ _ (pure es[i].key) _ _ _
 exact aq (aq ⟨_,rfl,aq (hQ h' tF eX)⟩)
theorem Tp{it d:Nat}{es:ay DictEntry}{Q:aB Value->Shared->Prop}(hh:A.handled=none)(hit:s.heap.get? it=some (uJ d i es.size ep))(ho:s.heap.get? d=some (bZ es ep))(hi:es.size<=i)
  (hQ: ∀h',Heap.ExtBut it s.heap h'->Q none {s with heap:=h'}):ai GM A (cR (.ref it)) Q E s:=by
 have hT:s.TypeIs (.ref it) "dict_keyiterator":=⟨_,hit,rfl⟩
 unfold cR
 refine wb (lq (iM (name:=Str.ofString "__next__") hT F.slot_dict_keyiterator_next
  (dY F.slot_dict_keyiterator_next hT F.entry_dict_keyiterator_next ?_ (F.args_dict_keyiterator_next_1 _))))
 refine wb (aq ?_)
 refine wb ?_
 refine wb ?_
 first |refine wb (Ae hT (aq ?_)) |refine wb (Aj hT (aq ?_))
 refine wb (ua hit rfl ?_)
 refine wp_if_no (c:=(Value.ref d==Value.none)=true) Bool.false_ne_true ?_
 refine wb (aq ?_)
 refine wb (ou ho rfl ?_)
 refine wp_if_no oK ?_
 refine wb (aq ?_)
 refine wb (t9 ho rfl ?_)
 refine wp_if_no oK ?_
 refine aq ?_
 dsimp only[KB]
 rw[GR hi]
 refine wb ?_
 first |refine wb (Ae hT (aq ?_)) |refine wb (Aj hT (aq ?_))
 show ai _ _ (jh (.ref it) 0 .none>>=_) _ _ s
 refine wb (dX hit (Nat.le_of_ble_eq_true rfl) λaI eI cJ=>?_)
 exact ur (s:=s) hh cJ.extBut hQ
theorem PH{l:ae α}{n:Nat}(h:n+1=(l.drop i).length):i<l.length:=Nat.lt_of_sub_eq_succ (Oh.symm.trans h.symm)
theorem Gs{l:ae α}(h:0=(l.drop i).length):l.length<=i:=Nat.le_of_sub_eq_zero (Oh.symm.trans h.symm)
theorem bv.IY{P:PM}{k:AV}{l:ae (AV×AV)}{es:ae DictEntry}(rl:bv p P ((k,b)::l) (es.drop i)){C:Prop}
  (f: ∀h:i<es.length,RepV p P k es[i].key->RepV p P b es[i].val->bv p P l (es.drop (i+1))->C):C:=by
 have h:=PH rl.length
 rw[E7 h] at rl
 have f:=f h
 generalize es[i]=x at rl f
 cases rl with |cons hk hv rl=>exact f hk hv rl
inductive Ky(d ep:Nat)(es:ay DictEntry)(I:Addr)(P:PM)(h:Heap)(L:ae AV):Prop
 |mk (pd:P d=some (bZ es ep)) (i:Nat) (l:ae (AV×AV)) (e:L=l.map (·.1)) (ho:h.get? I=some (uJ d i es.size ep)) (rl:bv G.w.params P l (es.toList.drop i))
theorem Qr{d:Nat}{es:ay DictEntry}{I:Addr}:vW I [I] (Ky d ep es I) where
 next:=λhp off ⟨pd,i,l,e,ho,rl⟩ h=>by
  cases l with
  |nil=>exact cs_cn e
  |cons x l=>exact rl.IY λbj rv ω rl=>To ho (hp _ _ pd) bj λh' he hs=>h _ _ h' _ (f8.refl _ _) (λb o e=>(hs.2 b (j9 (off I (.head _)) e)).trans (hp b o e)) ((eC e).1▸rv) ⟨pd,i+1,l,(eC e).2,he,rl⟩ λb o hb e=>(hs.2 b λq=>hb (q▸ .head _)).trans e
 stop:=λhh hp off ⟨pd,i,l,e,ho,rl⟩ h=>by
  cases l with
  |nil=>exact Tp hh ho (hp _ _ pd) (Gs rl.length) λh' hx=>h h' (λb o e=>hx b o (j9 (off I (.head _)) e) (hp b o e)) λb o hb e=>hx b o (λq=>hb (q▸ .head _)) e
  |cons x l=>exact cs_nc e
 keep:=λ⟨pd,i,l,q,ho,rl⟩ e=>⟨pd,i,l,q,(e I (.head _)).trans ho,rl⟩
 d_:=λ⟨pd,i,l,q,ho,rl⟩ c hc=>⟨_,aW.mp hc▸ho⟩
theorem Bd(h:Heap):h.get? h.objs.size=none:=by
 cases q:h.get? h.objs.size with
 |none=>rfl
 |some o=>exact ax (Heap.lt_size q) (Nat.lt_irrefl _)
theorem H9{d:Nat}(h:d≠1):(d==um)=false:=pW.mpr h
theorem RF{d:Nat}{es:ay DictEntry}{l:ae (AV×AV)}(hd:d≠1)(eo:P d=some (bZ es ep))(rl:bv G.w.params P l es.toList):wF P "dict" d (λL=>L=l.map (·.1)) where
 notList:=by decide
 notTuple:=by decide
 type:=λs hp=>⟨_,hp _ _ eo,rfl⟩
 hint:=λA E s Q hp hq=>kdl_hint_dict ⟨_,hp _ _ eo,rfl⟩ hq
 iter:=λA s E Q hp h=>by
  exact Tn (H9 hd) (hp _ _ eo) (h _ [s.heap.objs.size] (Ky d ep es s.heap.objs.size) _ s.toks s.drawn _ Qr (λc hc=>aW.mp hc▸Bd _) (λb o e=>Heap.get?_push_of_some _ e) ⟨eo,0,l,rfl,Heap.get?_push_size _ rfl,rl⟩ rfl)
 there:=⟨_,eo⟩
set_option tactic.hygienic true in
theorem FX{d:Addr}{l:ae (AV×AV)}(hd:σ d=some (.dict l))(S:qD (λL=>L=l.map (·.1)) OP)(hz:l.length<=sizeLine)
  (h: ∀out,OP (l.map (·.1)) out->Q (.lst out) (fP σ d)):cK n (.builtin "sorted") [.raw (.ref d)] σ Q:=by
 intro A X P s vs hA I r
 cases r using RepL.consE with |cons ra r=>
 cases r;cases ra
 have nd:d≠1:=I.ns d (by rw[hd];exactλe=>nomatch e)
 refine I.freeze hd λo aJ ro gS=>?_
 have Dn:=iS P d o
 cases ro using RepO.dictE with
 |dict rl=>
  rename_i es ep
  have K:qy (jY P d _) s (.ref d) (λL=>L=l.map (·.1)):=λA E Q hh hu h=>AX (RF nd Dn (rl.mono aJ)) (λL hL=>by rw[hL,ar];exact hz) hh gS.p h
  refine aC.with (A0 S K hA gS (λL hL=>by rw[hL,ar];exact hz) λL out hL=>hL▸h out) λv s' P' σ' a hP T' r q=>⟨P',σ',a,aJ.trans hP,T',r,q⟩
end
section
variable{n:Nat}{X P:PM}{σ:ah}{s:Shared}{A:bo}{E:Value->Shared->Prop}{Q:AV->ah->Prop}
noncomputable def yf(d:Addr):Obj:=⟨.type "dict_items",none,.fields #[.ref d],#[]⟩
theorem Pk{M:Model}{a:Addr}{Q:aB Obj->Shared->Prop}(h:Q (s.heap.get? a) s):ai M A (loadIfAlive a) Q E s:=λω ω ω=>h
theorem Tq{v d:Nat}{es:ay DictEntry}{Q:Value->Shared->Prop}(hv:s.heap.get? v=some (yf d))(ho:s.heap.get? d=some (bZ es ep))
  (hQ:Q (.ref s.heap.objs.size) {s with heap:=s.heap.push (qf .none (.bool false) d 0 es.size ep .none .none)}):ai GM A (hW (.ref v)) Q E s:=by
 have hT:s.TypeIs (.ref v) "dict_items":=⟨_,hv,rfl⟩
 refine AA hT F.slot_dict_items_iter (dY F.slot_dict_items_iter hT F.entry_dict_items_iter ?_ (F.args_dict_items_iter_1 _))
 unfold cF.«dict_items.__iter__»
 refine wb (aq ?_)
 refine wb ?_
 unfold cF.Dict_items.dictOf
 refine wb (eE hv rfl (x:= .ref d) rfl (aq ?_))
 refine wb ?_
 unfold cF.Dict_items.newIterator
 refine wb (ou ho rfl ?_)
 refine wb (t9 ho rfl ?_)
 dsimp only[KB]
 rw[if_pos (show cF.Dict_items.ownsTuple "dict_itemiterator"=true by decide)]
 exact iO (aq ⟨_,rfl,"dict_itemiterator",_,⟨_,Heap.get?_push_size _ rfl,rfl⟩,F.slot_dict_itemiterator_next.lookup,hQ⟩)
  (by simp only[sizeOk,cF.Dict_items.ownedTupleFields,rS,bQ,gh,Ow,eZ];lia)
def WZ(h:Heap)(f0:Value):Prop:=f0= .none\/ ∃(a:Nat) (o:Obj),f0=cz a/\h.get? a=some o
theorem Tr{it d:Nat}{es:ay DictEntry}{f0 ok ov:Value}{f1:Bool}{Q:aB Value->Shared->Prop}(hit:s.heap.get? it=some (qf f0 (.bool f1) d i es.size ep ok ov))(hf:WZ s.heap f0)(ho:s.heap.get? d=some (bZ es ep))(hi:i<es.size)
  (hQ: ∀h' wL D_ Ea Eb,h'.get? it=some (qf wL (.bool D_) d (i+1) es.size ep Ea Eb)->(wL=f0\/wL=cz s.heap.objs.size)->h'.get? s.heap.objs.size=some (dE #[es[i].key,es[i].val] 0)->
   (∀b o,b≠it->s.heap.get? b=some o->h'.get? b=some o)->Q (some (.ref s.heap.objs.size)) {s with heap:=h'}):ai GM A (cR (.ref it)) Q E s:=by
 obtain⟨hp,g,dr,tk,os⟩:=s
 have hT:Shared.TypeIs ⟨hp,g,dr,tk,os⟩ (.ref it) "dict_itemiterator":=⟨_,hit,rfl⟩
 unfold cR
 refine wb (lq (iM (name:=Str.ofString "__next__") hT F.slot_dict_itemiterator_next
  (dY F.slot_dict_itemiterator_next hT F.entry_dict_itemiterator_next ?_ (F.args_dict_itemiterator_next_1 _))))
 refine wb (aq ?_)
 refine wb ?_
 refine wb ?_
 first |refine wb (Ad hT (aq ?_)) |refine wb (Ag hT (aq ?_))
 refine wb (ua hit rfl ?_)
 refine wp_if_no (c:=(Value.ref d==Value.none)=true) Bool.false_ne_true ?_
 refine wb (aq ?_)
 refine wb (ou ho rfl ?_)
 refine wp_if_no oK ?_
 refine wb (aq ?_)
 refine wb (t9 ho rfl ?_)
 refine wp_if_no oK ?_
 refine aq ?_
 dsimp only[KB]
 rw[H8 hi]
 refine wb ?_
 first |refine wb (Ad hT (aq ?_)) |refine wb (Ag hT (aq ?_))
 refine wb (Fd hT ?_)
 show ai _ _ (jh (.ref it) 3 (cz ((i:aj)+1))>>=_) _ _ ⟨hp,g,dr,tk,os⟩
 refine wb (dX hit (Nat.le_of_ble_eq_true rfl) λaD ir cY=>?_)
 replace cY:Heap.SameBut it hp aD:=cY
 replace ir:aD.get? it=some (qf f0 (.bool f1) d (i+1) es.size ep ok ov):=ir
 have CT:Shared.TypeIs ⟨aD,g,dr,tk,os⟩ (.ref it) "dict_itemiterator":=⟨_,ir,rfl⟩
 refine wb (cq ?_)
 refine wb (Fd CT ?_)
 refine wb (Fd CT ?_)
 show ai _ _ (MT (.ref it) 6 es[i].key es[i].val) _ _ ⟨aD,g,dr,tk,os⟩
 unfold MT
 refine wb (xy ?_)
 have eI:(aD.push (dE #[es[i].key,es[i].val] 0)).get? it=some (qf f0 (.bool f1) d (i+1) es.size ep ok ov):=Heap.get?_push_of_some _ ir
 generalize yR:aD.push (dE #[es[i].key,es[i].val] 0)=aI at eI
 have kM:aD.objs.size=hp.objs.size:=cY.1
 have ob:it<hp.objs.size:=Heap.lt_size hit
 have CU:aI.get? hp.objs.size=some (dE #[es[i].key,es[i].val] 0):=by rw[<- yR,<- kM];exact Heap.get?_push_size _ rfl
 have gP: ∀b o,b≠it->hp.get? b=some o->aI.get? b=some o:=λb o hb e=>by rw[<- yR];exact Heap.get?_push_of_some _ (cY.extBut b o hb e)
 have cj:hp.objs.size≠it:=Nat.ne_of_gt ob
 show ai _ _ (MR (.ref it)>>=_) _ _ ⟨aD.push (dE #[es[i].key,es[i].val] 0),g,dr,tk,os⟩
 rw[yR,kM]
 clear yR ir cY CT kM aD
 refine wb ?_
 unfold MR
 rcases hf with rfl |⟨a,o,rfl,YJ⟩
 .refine wb (eE eI rfl (x:= .none) rfl (aq ?_))
  refine wp_if_yes rfl ?_
  refine wb (eE eI rfl (x:=ok) rfl ?_)
  refine wb (eE eI rfl (x:=ov) rfl ?_)
  refine wb (dX eI (Nat.le_of_ble_eq_true rfl) λbK o0 dB=>?_)
  replace dB:Heap.SameBut it aI bK:=dB
  refine wb (dX o0 (Nat.le_of_ble_eq_true rfl) λdO sR jp=>?_)
  replace jp:Heap.SameBut it bK dO:=jp
  refine wb (dX sR (Nat.le_of_ble_eq_true rfl) λdi vq fZ=>?_)
  replace fZ:Heap.SameBut it dO di:=fZ
  refine wb (dX vq (Nat.le_of_ble_eq_true rfl) λiA vr nL=>?_)
  replace nL:Heap.SameBut it di iA:=nL
  have kk: ∀b o,b≠it->aI.get? b=some o->iA.get? b=some o:=λb o hb e=>nL.extBut b o hb (fZ.extBut b o hb (jp.extBut b o hb (dB.extBut b o hb e)))
  exact wb (ug (aq (aq ⟨_,rfl,aq (hQ iA (cz hp.objs.size) false es[i].key es[i].val vr (.inr rfl) (kk _ _ cj CU) λb o hb e=>kk b o hb (gP b o hb e))⟩)))
 .have YK: ∃o',aI.get? a=some o':=by
   by_cases q:a=it
   .subst q;exact⟨_,eI⟩
   .exact⟨_,gP a o q YJ⟩
  obtain⟨o',gG⟩:=YK
  refine wb (eE eI rfl (x:=cz a) rfl ?_)
  show ai _ _ (loadIfAlive a>>=_) _ _ _
  refine wb (Pk ?_)
  rw[gG]
  refine wp_if_no (λq=>nomatch q) ?_
  refine wb (eE eI rfl (x:= .bool f1) rfl ?_)
  refine jB (λq=>?_) (λq=>?_)
  .refine wb (dX eI (Nat.le_of_ble_eq_true rfl) λbK o0 dB=>?_)
   replace dB:Heap.SameBut it aI bK:=dB
   refine aq ?_
   refine wp_if_no Bool.false_ne_true ?_
   exact aq (aq ⟨_,rfl,aq (hQ bK (cz a) true ok ov o0 (.inl rfl) (dB.extBut _ _ cj CU) λb o hb e=>dB.extBut b o hb (gP b o hb e))⟩)
  .refine aq ?_
   refine wp_if_no Bool.false_ne_true ?_
   exact aq (aq ⟨_,rfl,aq (hQ aI (cz a) f1 ok ov eI (.inl rfl) CU gP)⟩)
theorem Tt{it d:Nat}{es:ay DictEntry}{f0 f1 ok ov:Value}{Q:aB Value->Shared->Prop}(hh:A.handled=none)(hit:s.heap.get? it=some (qf f0 f1 d i es.size ep ok ov))(ho:s.heap.get? d=some (bZ es ep))(hi:es.size<=i)
  (hQ: ∀h',Heap.ExtBut it s.heap h'->Q none {s with heap:=h'}):ai GM A (cR (.ref it)) Q E s:=by
 have hT:s.TypeIs (.ref it) "dict_itemiterator":=⟨_,hit,rfl⟩
 unfold cR
 refine wb (lq (iM (name:=Str.ofString "__next__") hT F.slot_dict_itemiterator_next
  (dY F.slot_dict_itemiterator_next hT F.entry_dict_itemiterator_next ?_ (F.args_dict_itemiterator_next_1 _))))
 refine wb (aq ?_)
 refine wb ?_
 refine wb ?_
 first |refine wb (Ad hT (aq ?_)) |refine wb (Ag hT (aq ?_))
 refine wb (ua hit rfl ?_)
 refine wp_if_no (c:=(Value.ref d==Value.none)=true) Bool.false_ne_true ?_
 refine wb (aq ?_)
 refine wb (ou ho rfl ?_)
 refine wp_if_no oK ?_
 refine wb (aq ?_)
 refine wb (t9 ho rfl ?_)
 refine wp_if_no oK ?_
 refine aq ?_
 dsimp only[KB]
 rw[GR hi]
 refine wb ?_
 first |refine wb (Ad hT (aq ?_)) |refine wb (Ag hT (aq ?_))
 show ai _ _ (jh (.ref it) 2 .none>>=_) _ _ s
 refine wb (dX hit (Nat.le_of_ble_eq_true rfl) λaI eI cJ=>?_)
 exact ur (s:=s) hh cJ.extBut hQ
noncomputable def iW(l:ae (AV×AV)):ae AV:=l.map λe=> .tup [e.1,e.2]
inductive JQ(d ep:Nat)(es:ay DictEntry)(I:Addr)(P:PM)(h:Heap)(L:ae AV):Prop
 |mk (pd:P d=some (bZ es ep)) (i:Nat) (l:ae (AV×AV)) (e:L=iW l) (f0:Value) (f1:Bool) (ok ov:Value) (ho:h.get? I=some (qf f0 (.bool f1) d i es.size ep ok ov)) (hf:f0= .none\/ ∃(a:Nat) (o:Obj),f0=cz a/\P a=some o) (rl:bv G.w.params P l (es.toList.drop i))
theorem PJ{d:Nat}{es:ay DictEntry}{I:Addr}:vW I [I] (JQ d ep es I) where
 next:=λ{P s A a r E Q} hp off ⟨pd,i,l,e,f0,f1,ok,ov,ho,hf,rl⟩ h=>by
  cases l with
  |nil=>exact cs_cn e
  |cons x l=>
  refine rl.IY λbj hk hv rl=>Tr ho (hf.imp id λ⟨a,o,e1,e2⟩=>⟨a,o,e1,hp _ _ e2⟩) (hp _ _ pd) bj λh' wL D_ Ea Eb he D0 hn bJ=>?_
  have nN:=Dl hp
  have hle:=oR (dE #[es[i].key,es[i].val] 0) nN
  refine h _ (jY P s.heap.objs.size _) h' s.toks ⟨hle,λc=>?_⟩ (λb o e=>GD (R:=λb o=>h'.get? b=some o) e hn λe=>bJ b o (j9 (off I (.head _)) e) (hp b o e)) ((eC e).1▸ .tup (items:= #[es[i].key,es[i].val]) (n:=0) (iS _ _ _) (.cons (hk.mono hle) (.cons (hv.mono hle) .nil))) ⟨hle _ _ pd,i+1,l,(eC e).2,wL,D_,Ea,Eb,he,D0.elim (λq=>q▸hf.imp id λ⟨a,o,e1,e2⟩=>⟨a,o,e1,hle _ _ e2⟩) (λq=> .inr ⟨_,_,q,iS _ _ _⟩),rl.mono hle⟩ λb o hb e=>bJ b o (λq=>hb (q▸ .head _)) e
  by_cases q:c=s.heap.objs.size
  .exact .inr (q▸Bd _)
  .exact .inl (lw _ _ q)
 stop:=λhh hp off ⟨pd,i,l,e,f0,f1,ok,ov,ho,hf,rl⟩ h=>by
  cases l with
  |nil=>exact Tt hh ho (hp _ _ pd) (Gs rl.length) λh' hx=>h h' (λb o e=>hx b o (j9 (off I (.head _)) e) (hp b o e)) λb o hb e=>hx b o (λq=>hb (q▸ .head _)) e
  |cons x l=>exact cs_nc e
 keep:=λ⟨pd,i,l,q,f0,f1,ok,ov,ho,hf,rl⟩ e=>⟨pd,i,l,q,f0,f1,ok,ov,(e I (.head _)).trans ho,hf,rl⟩
 d_:=λ⟨pd,i,l,q,f0,f1,ok,ov,ho,hf,rl⟩ c hc=>⟨_,aW.mp hc▸ho⟩
theorem PK{r:Addr}{Q:Bool->Shared->Prop}(hT:s.TypeIs (.ref r) "dict_items")(h:Q false s):ai GM A (xh (.ref r)) Q E s:=by
 unfold xh
 refine cS (lU hT PySem.F.slot_dict_items_len.lookup ?_)
 refine gn (("dict_items.__len__":dK)) λD9 wK=>?_
 wp_delta
 rw[show splitId D9=some ("dict_items","__len__") from by subst wK;decide+kernel]
 subst wK
 refine cS (t8 (T:="dict_items") (b:=true) hT (by rw[FO];kernel_rfl) ?_)
 refine jB (λfS=>ax fS (by decide)) (λω=>?_)
 refine jB (λω=>?_) (λfS=>ax (by decide+kernel) fS)
 refine cS (oy hT ?_)
 exact aq h
theorem Qs{v d:Nat}{es:ay DictEntry}{l:ae (AV×AV)}(hv:P v=some (yf d))(eo:P d=some (bZ es ep))(rl:bv G.w.params P l es.toList):wF P "dict_items" v (λL=>L=iW l) where
 notList:=by decide
 notTuple:=by decide
 type:=λs hp=>⟨_,hp _ _ hv,rfl⟩
 hint:=λA E s Q hp hq=>PK ⟨_,hp _ _ hv,rfl⟩ hq
 iter:=λA s E Q hp h=>by
  exact Tq (hp _ _ hv) (hp _ _ eo) (h _ [s.heap.objs.size] (JQ d ep es s.heap.objs.size) _ s.toks s.drawn _ PJ (λc hc=>aW.mp hc▸Bd _) (λb o e=>Heap.get?_push_of_some _ e) ⟨eo,0,l,rfl,.none,false,.none,.none,Heap.get?_push_size _ rfl,.inl rfl,rl⟩ rfl)
 there:=⟨_,hv⟩
theorem Pl{l:ae (AV×AV)}(hz:l.length<=sizeLine): ∀X P s v,bD X P σ s->RepV G.w.params P (.view l) v->qy P s v (λL=>L=iW l):=by
 intro X P s v I r A E Q hh hu h
 cases r with
 |view hv hd hs rl=>exact AX (Qs hv hd rl) (λL hL=>by rw[hL];exact(ar _).symm▸hz) hh I.p h
theorem Tu{l:ae (AV×AV)}(h:Q (.view l) σ):cK n (.builtin "dict.items") [.ca l] σ Q:=by
 intro A X P s vs hA I r
 cases r using RepL.consE with |cons ra r=>
 cases r
 cases ra with
 | @ca _ d es c hd hs rl=>
  have ho:=I.p _ _ hd
  have hT:s.TypeIs (.ref d) "dict":=⟨_,ho,rfl⟩
  refine dY F.slot_dict_items hT F.entry_dict_items ?_ (F.args_dict_items_1 _)
  unfold cF.«dict.items»
  refine wb ?_
  unfold cF.Dict.noArgs
  refine wb (t4 hT ?_)
  show ai _ _ (pure d) _ _ s
  refine aq ?_
  show ai _ _ (Ao d>>=_) _ _ s
  unfold Ao
  refine wb (wp_if_no (λq=>ax ((H9 hs).symm.trans q) Bool.false_ne_true) (aq ?_))
  refine wb (iO (aq ⟨_,rfl,?_⟩))
  refine I.frozen (t:=s.toks) (o:=yf d) (h':=s.heap.push (yf d)) rfl (λa o e=>Heap.get?_push_of_some _ e) (Heap.get?_push_size _ rfl) λP' hP e ω I'=>?_
  exact⟨P',σ,_,hP,I',.view e (hP _ _ hd) hs (rl.mono hP),h⟩
end
noncomputable def hU:ae (AV×AV)->ae (AV×AV)->ae (AV×AV)
 |l,[]=>l
 |l,(k,b)::r=>hU (iB l k b) r
noncomputable def oM:ae (AV×AV)->ae (AV×AV)->Prop
 |_,[]=>True
 |l,(k,b)::r=>ja l k/\oM (iB l k b) r
section
variable{n:Nat}{af:Env}{m:au}{X P:PM}{σ:ah}{s:Shared}{A:bo}{E:Value->Shared->Prop}{Q:AV->ah->Prop}
inductive vA(p:bg)(P:PM):ae (AV×AV)->ae (Value×Value)->Prop
 |nil:vA p P [] []
 |cons {k b:AV} {kv v:Value} {l:ae (AV×AV)} {vs:ae (Value×Value)} (hk:RepV p P k kv) (hv:RepV p P b v) (r:vA p P l vs):vA p P ((k,b)::l) ((kv,v)::vs)
theorem Qt{d:Addr}(hd:P d=none)(hu:A.units+20<cLine){vs:ae (Value×Value)}(rr:vA G.w.params P dz vs): ∀{l:ae (AV×AV)} {es:ay DictEntry} {c:Nat} {s:Shared} {Q:yG->Shared->Prop},P.le s.heap.get?->s.heap.get? d=some (bZ es c)->bv G.w.params P l es.toList->
  oM l dz->l.length+dz.length<=sizeLine->
  (∀h' be c' t,h'.get? d=some (bZ be c')->bv G.w.params P (hU l dz) be.toList->(∀x,x≠d->h'.get? x=s.heap.get? x)->Q jg {s with heap:=h',toks:=t})->
  ai GM A (gO vs jg λ(x:Value×Value) (_:yG)=>(do ya d x.1 x.2;pure (xw jg):bw (e_ yG))) Q E s:=by
 induction rr with
 |nil=>
  intro l es c s Q hp ho r K hz h
  rw[AJ]
  exact aq (h s.heap es c s.toks ho r λx ω=>rfl)
 | @cons k b kv v dz vs rk rb rr ih=>
  intro l es c s Q hp ho r K hz h
  rw[xx]
  have j8:l.length+1+dz.length<=sizeLine:=(Nat.add_right_comm l.length 1 dz.length).symm▸hz
  refine wb (wb (CH hp ho r K.1 rk hu rb (Nat.le_trans (Nat.le_trans (Nat.le_succ _) (Nat.le_add_right _ _)) j8) λaD Z_ c₁ W4 sU bF k₁=>aq ?_))
  have fB:P.le aD.get?:=λx o e=>(k₁ x λq=>nos (hd.symm.trans (q▸e))).trans (hp x o e)
  exact ih (s:={s with heap:=aD,toks:=W4}) fB sU bF K.2 (Nat.le_trans (Nat.add_le_add_right (Gb l k b) _) j8) λh' be c' t gG r' k'=>h h' be c' t gG r' λx hx=>(k' x hx).trans (k₁ x hx)
def zF(n:Nat)(af:Env)(pos:Pos)(ps:ae (Expr×Expr))(m:au)(σ:ah)(Q:ae (AV×AV)->ah->Prop):Prop:=
 ∀A X P s,cT n A->At af m X P σ s->ai GM A (evalPairs (ps.map λp=>(eval p.1 af,do let x <- eval p.2 af;iU pos;pure x))) (aC (At af m X) P (vA G.w.params) Q) (λω ω=>False) s
theorem yS{pos:Pos}{Q:ae (AV×AV)->ah->Prop}(h:Q [] σ):zF n af pos [] m σ Q:=λω ω ω ω ω T=>evalPairs_nil (aC.now T .nil h)
theorem oT{pos:Pos}{k v:Expr}{r:ae (Expr×Expr)}{Q:ae (AV×AV)->ah->Prop}(h:aQ n af k m σ λa ap=>aQ n af v m ap λb aO=>zF n af pos r m aO λl dZ=>Q ((a,b)::l) dZ):zF n af pos ((k,v)::r) m σ Q:=by
 intro A X P s hA T
 refine evalPairs_cons ?_
 refine aC.with (h A X P s hA T) λkv aH aR ap a aJ aL bF aD=>?_
 refine wb (aC.with (aD A X aR aH hA aL) λvv aV bA aO b bm ba b_ aI=>wb (fi (aq ?_)))
 refine aC.with (aI A X bA aV hA ba) λvs eJ eK dZ l cX c8 fO bK=>?_
 exact aC.up ((aJ.trans bm).trans cX) (aC.now c8 (.cons (bF.mono (bm.trans cX)) (b_.mono cX) fO) bK)
theorem yy{keys:ae (aB Expr)}{values:ae Expr}{pos:Pos}(ps:ae (Expr×Expr))
  (UJ:(evalEachOpt keys af).zip ((evalEach values af).map λv=>do let x <- v;iU pos;pure x)=(ps.map λp=>(eval p.1 af,do let x <- eval p.2 af;iU pos;pure x)).map λp=>(some p.1,p.2))
  (h0:ps≠[]) (hlen:ps.length<=15)
  (h: ∀d,σ d=none->zF n af pos ps m (aA σ d (.dict [])) λdz ap=>ap d=some (.dict [])/\oM [] dz/\dz.length<=100/\Q (.raw (.ref d)) (aA ap d (.dict (hU [] dz)))):aQ n af (.Dict keys values pos) m σ Q:=by
 intro A X P s hA T
 rw[arm_eval_Dict,UJ,dictDisplay_pairs _ (by simpa using h0) (by simpa using Nat.lt_of_le_of_lt hlen (by lia))]
 refine wb (fi (wb ?_))
 unfold subDict
 refine wb (wpAny_alloc ?_)
 refine wb (cq ?_)
 rw[if_pos (by simpa using hlen)]
 have aL:=T.alloc (t:=s.toks) (o:=bZ #[] 0) (ao:= .dict []) (h':=s.heap.push (bZ #[] 0)) rfl (λa o e=>Heap.get?_push_of_some _ e) (Heap.get?_push_size _ rfl) (.dict .nil)
 refine wb (bT (h s.heap.objs.size T.inv.fresh.1 A X P _ hA aL) (λvs aH pq=>?_) λω ω x=>x.elim)
 obtain⟨aR,ap,dz,aJ,ba,r,e,K,hk,q⟩:=pq
 refine cq ?_
 obtain⟨o,ho,ro⟩:=ba.inv.st _ _ e
 have off:=(ba.inv.off _ (by rw[e];exactλz=>nomatch z)).2
 cases ro using RepO.dictE with
 |dict rd=>
  refine wb (Qt off hA.WG r ba.inv.p ho rd K (by simp;unfold sizeLine;lia) λh' be c' t gG r' k'=>aq (aq (aq ?_)))
  exact aC.up aJ (aC.now (ba.update (t:=t) e k' gG (.dict r')) (.raw _) q)
theorem uX{pos:Pos}(h: ∀d,σ d=none->Q (.raw (.ref d)) (aA σ d (.dict []))):aQ n af (.Dict [] [] pos) m σ Q:=by
 intro A X P s hA T
 rw[eval_Dict_empty]
 refine wb (fi (iO ?_))
 have aL:=T.alloc (t:=s.toks) (o:=bZ #[] 0) (ao:= .dict []) (h':=s.heap.push (bZ #[] 0)) rfl (λa o e=>Heap.get?_push_of_some _ e) (Heap.get?_push_size _ rfl) (.dict .nil)
 exact aC.now aL (.raw _) (h _ T.inv.fresh.1)
end
section
variable{prog:Program}{w:World}{A:bo}{E:Value->Shared->Prop}{s:Shared}
theorem RG:uo (.type "tuple") "keys"=pure none:=by rw[xv,xm];kernel_rfl
theorem RI:uo (.type "tuple") "__getattr__"=pure none:=by rw[xv,xm];kernel_rfl
theorem NE(a:Addr)(items:ay Value)(c:Nat)(tk:el):
  sL (cF.«object.__getattribute__» ⟨[.ref a,.str "keys" tk],[]⟩) (λA R s=>s.heap.get? a=some {cls:= .type "tuple",dict:=none,data:= .seq items c,slots:= #[]}/\raisesAttr (.ref a) "keys" A R s):=
 sL.of_wp λprog w A R s hs=>by
  obtain⟨h,g,d,t,os⟩:=s
  obtain⟨hx,hs⟩:=hs
  have hT:Shared.TypeIs ⟨h,g,d,t,os⟩ (.ref a) "tuple":=⟨_,hx,rfl⟩
  have f4:=RG
  unfold cF.«object.__getattribute__»
  repeat (any_goals (first |assumption |wp_step))
  exact NA hs.1 hs.2 (attrMsg_fits (by decide+kernel) (by size_fits))
theorem OY{a:Addr}{c:Nat}(hx:s.heap.get? a=some {cls:= .type "tuple",dict:=none,data:= .seq items c,slots:= #[]})(hh:A.handled=none)
  (h: ∀h' wM,(∀b o,s.heap.get? b=some o->h'.get? b=some o)->Q none {s with heap:=h',toks:=wM}):
  ai (model prog w) A (Bk (.ref a) "keys") Q E s:=by
 obtain⟨hp,g,d,t,os⟩:=s
 have hT:Shared.TypeIs ⟨hp,g,d,t,os⟩ (.ref a) "tuple":=⟨_,hx,rfl⟩
 have Ec:Shared.TypeIs ⟨hp,g,d,t+1,os⟩ (.ref a) "tuple":=⟨_,hx,rfl⟩
 have f1:=NT
 have f3:=F.slot_tuple_getattribute.lookup
 have f4:=F.slot_tuple_getattribute.bind (.ref a)
 have f5:=RI
 unfold Bk getAttrBy? getAttrBy
 repeat (any_goals (first |assumption |((with_reducible show ai _ _ (call (Value.builtin "tuple.__getattribute__") _ _) _ _ _);refine uk F.slot_tuple_getattribute Ec F.entry_tuple_ga (F.args_tuple_getattribute_2 _ _) (NE a items c _) ⟨hx,hh,λh' wM e i_=>?_⟩) |wp_step))
 obtain⟨t',u',he⟩:=i_.there
 show ai _ _ (Au _ _ _ _ _ _ _) _ _ _
 unfold Au
 repeat (any_goals (first |assumption |wp_step))
 exact h _ _ i_.keeps
theorem Tv:uo (.type "list") "keys"=pure none:=by rw[xv,xm];kernel_rfl
theorem Tw:uo (.type "list") "__getattr__"=pure none:=by rw[xv,xm];kernel_rfl
theorem Ok(a:Addr)(items:ay Value)(c:Nat)(tk:el):
  sL (cF.«object.__getattribute__» ⟨[.ref a,.str "keys" tk],[]⟩) (λA R s=>s.heap.get? a=some {cls:= .type "list",dict:=none,data:= .seq items c,slots:= #[]}/\raisesAttr (.ref a) "keys" A R s):=
 sL.of_wp λprog w A R s hs=>by
  obtain⟨h,g,d,t,os⟩:=s
  obtain⟨hx,hs⟩:=hs
  have hT:Shared.TypeIs ⟨h,g,d,t,os⟩ (.ref a) "list":=⟨_,hx,rfl⟩
  have f4:=Tv
  unfold cF.«object.__getattribute__»
  repeat (any_goals (first |assumption |wp_step))
  exact NA hs.1 hs.2 (attrMsg_fits (by decide+kernel) (by size_fits))
theorem Pc{a:Addr}{c:Nat}(hx:s.heap.get? a=some {cls:= .type "list",dict:=none,data:= .seq items c,slots:= #[]})(hh:A.handled=none)
  (h: ∀h' wM,(∀b o,s.heap.get? b=some o->h'.get? b=some o)->Q none {s with heap:=h',toks:=wM}):
  ai (model prog w) A (Bk (.ref a) "keys") Q E s:=by
 obtain⟨hp,g,d,t,os⟩:=s
 have hT:Shared.TypeIs ⟨hp,g,d,t,os⟩ (.ref a) "list":=⟨_,hx,rfl⟩
 have Ec:Shared.TypeIs ⟨hp,g,d,t+1,os⟩ (.ref a) "list":=⟨_,hx,rfl⟩
 have f1:=NT
 have f3:=F.slot_list_getattribute.lookup
 have f4:=F.slot_list_getattribute.bind (.ref a)
 have f5:=Tw
 unfold Bk getAttrBy? getAttrBy
 repeat (any_goals (first |assumption |((with_reducible show ai _ _ (call (Value.builtin "list.__getattribute__") _ _) _ _ _);refine uk F.slot_list_getattribute Ec F.entry_list_ga (F.args_list_getattribute_2 _ _) (Ok a items c _) ⟨hx,hh,λh' wM e i_=>?_⟩) |wp_step))
 obtain⟨t',u',he⟩:=i_.there
 show ai _ _ (Au _ _ _ _ _ _ _) _ _ _
 unfold Au
 repeat (any_goals (first |assumption |wp_step))
 exact h _ _ i_.keeps
end
theorem Fa:entryFor table "dict.update.loop"=some cF.«dict.update.loop»:=entryFor_of_tree (by kernel_rfl)
theorem tZ:plainId "dict.update.loop"=true:=by decide+kernel
section
variable{n:Nat}{af:Env}{m:au}{X P:PM}{σ:ah}{s:Shared}{A:bo}{E:Value->Shared->Prop}{Q:AV->ah->Prop}
theorem RJ(r:RepV p P (.tup [a,b]) v){C:Value->Prop}(k: ∀t items c kv vv,P t=some ⟨.type "tuple",none,.seq items c,#[]⟩->items.toList=[kv,vv]->RepV p P a kv->RepV p P b vv->C (.ref t)):C v:=by
 cases r with
 | @tup _ t items c ht rl=>
  generalize q:items.toList=L at rl
  cases rl using RepL.consE with |cons rk rl=>
  cases rl using RepL.consE with |cons rb rl=>
  cases rl
  exact k t items c _ _ ht q rk rb
theorem PN{D I:Addr}(hh:A.handled=none)(hu:A.units+40<cLine)(oD:P D=none)(oI:P I=none)(ne:I≠D)(dz:ae (AV×AV)): ∀(l:ae (AV×AV)) (i:Nat) (es:ay DictEntry) (c:Nat) (s:Shared),P.le s.heap.get?->cA G.w.params P s.heap I (iW dz)->s.heap.get? D=some (bZ es c)->bv G.w.params P l es.toList->oM l dz->l.length+dz.length<=sizeLine->
  (∀h' t be c',h'.get? D=some (bZ be c')->bv G.w.params P (hU l dz) be.toList->(∀b o,b≠D->b≠I->s.heap.get? b=some o->h'.get? b=some o)->R (.ok (.ret .none)) {s with heap:=h',toks:=t})->
  fX GM A (.builtin "dict.update.loop" ⟨[.ref D,.ref I,cz i,.none],[]⟩) R s:=by
 induction dz with
 |nil=>
  intro l i es c s hp hI ho r K hz hR
  refine nj Fa ?_
  rw[oq tZ _]
  show ai _ A.in1 (cR (.ref I)>>=_) _ _ s
  refine wb (IV hh hp hI rfl λh' hx=>?_)
  show ai _ A.in1 (cF.Dict.addKeywords D []>>=_) _ _ _
  exact wb (aq (aq (hR h' s.toks es c (hx D _ ne.symm ho) r λb o ω hb e=>hx b o hb e)))
 |cons x dz ih=>
  intro l i es c s hp hI ho r K hz hR
  refine nj Fa ?_
  rw[oq tZ _]
  show ai _ A.in1 (cR (.ref I)>>=_) _ _ s
  refine wb (H5 hp hI rfl λv aD rv sS cY=>?_)
  have fB:P.le aD.get?:=λb o e=>(cY.2 b (j9 oI e)).trans (hp b o e)
  have sU:=(cY.2 D ne.symm).trans ho
  refine RJ (C:=λv=>KB _ _ _ _ _ (some v) _) rv λt items c' kv vv ht hit rk rb=>?_
  have zG:=fB _ _ ht
  show ai _ A.in1 (holding [.ref t] _>>=_) _ _ _
  refine wb (cq (wb (wpAny_tryCatch ?_)))
  unfold cF.Dict.pairItems
  refine wb (oy (T:="tuple") ⟨_,zG,rfl⟩ ?_)
  refine wp_if_yes (by decide) ?_
  refine wb (jC zG rfl (aq ?_))
  show ai _ A.in1 (match items.toList with |[k,v]=>_ |l=>_) _ _ _
  rw[hit]
  have j8:l.length+1+dz.length<=sizeLine:=(Nat.add_right_comm l.length 1 dz.length).symm▸hz
  show ai _ A.in1 (holding [kv,vv] (ya D kv vv)) _ _ _
  refine cq (CH (s:={s with heap:=aD}) fB sU r K.1 rk (by show A.units+1+20<_;exact Kd 21 hu) rb (Nat.le_trans (Nat.le_trans (Nat.le_succ _) (Nat.le_add_right _ _)) j8) λaI V4 c₂ jv yP b_ k₂=>?_)
  have jO:P.le aI.get?:=λx o e=>(k₂ x (j9 oD e)).trans (fB x o e)
  exact aq ⟨plainId_quiet tZ _,ih (iB l x.1 x.2) (i+1) V4 c₂ {s with heap:=aI,toks:=jv} jO (sS.same (PM.le.refl P) (k₂ _ ne)) yP b_ K.2 (Nat.le_trans (Nat.add_le_add_right (Gb l x.1 x.2) _) j8) λbK Di V5 W5 CR fO Dj=>hR bK Di V5 W5 CR fO λx o h1 h2 e=>Dj x o h1 h2 ((k₂ x h1).trans ((cY.2 x h2).trans e))⟩
theorem GS{r:Addr}{c:Nat}{T:dK}{Q:Value->Shared->Prop}(hT:T="list"\/T="tuple")(hr:P r=some ⟨.type T,none,.seq items c,#[]⟩)(hp:P.le s.heap.get?)(rl:RepL G.w.params P (iW dz) items.toList)(hh:A.handled=none)(hu:A.units+60<cLine)
  (K:oM [] dz) (hz:dz.length<=sizeLine)
  (h: ∀h' t es c',h'.get? s.heap.objs.size=some (bZ es c')->bv G.w.params P (hU [] dz) es.toList->(∀b o,s.heap.get? b=some o->h'.get? b=some o)->Q (.ref s.heap.objs.size) {s with heap:=h',toks:=t}):
  ai GM A (call (.type "dict") [.ref r]) Q E s:=by
 refine callType_codes (Q₁:=λobj aH=>obj= .ref s.heap.objs.size/\aH={s with heap:=s.heap.push {cls:= .type "dict",data:= .dict #[]} }) F.kt_called_dict (F.kt_typeCall_dict_1 _) F.entry_dict_init (kt_code_dict_new _ ⟨rfl,rfl⟩) ?_
 rintro obj aH ⟨rfl,rfl⟩
 have Do:(s.heap.push {cls:= .type "dict",data:= .dict #[]}).get? s.heap.objs.size=some (bZ #[] 0):=Heap.get?_push_size _ rfl
 have LI:Shared.TypeIs {s with heap:=s.heap.push {cls:= .type "dict",data:= .dict #[]} } (.ref s.heap.objs.size) "dict":=⟨_,Do,rfl⟩
 have sV:=Heap.get?_push_of_some {cls:=Value.type "dict",data:= .dict #[]} (hp _ _ hr)
 have nS:=Dl hp
 refine⟨LI,F.args_dict_init_2 _ _,?_⟩
 unfold cF.«dict.__init__»
 refine wb ?_
 unfold cF.Dict.selfAndRest
 refine wb (t4 LI ?_)
 show ai _ _ (pure (s.heap.objs.size,[Value.ref r])) _ _ _
 refine aq ?_
 show ai _ _ (Nc "dict.__init__" s.heap.objs.size (.ref r) [] .none) _ _ _
 unfold Nc
 have fin: ∀(aI:Heap) (jv:Nat),(∀b o,(s.heap.push {cls:=Value.type "dict",data:= .dict #[]}).get? b=some o->aI.get? b=some o)-> ∀I,cA G.w.params P aI I (iW dz)->P I=none->I≠s.heap.objs.size->s.heap.get? I=none->
   fX GM A.in1 (.builtin "dict.update.loop" ⟨[.ref s.heap.objs.size,.ref I,cz 0,.none],[]⟩) (wants (λr aV=>r= .none/\Q (.ref s.heap.objs.size) aV) E) {s with heap:=aI,toks:=jv}:=by
  intro aI jv hk I hI oI ne V6
  refine PN (A:=A.in1) hh (show A.units+1+40<cLine from Kd 41 hu) nS oI ne dz [] 0 #[] 0 _ (λb o e=>hk b o (Heap.get?_push_of_some _ (hp b o e))) hI (hk _ _ Do) .nil K ((Nat.zero_add _).symm▸hz) λh' t be c' gG r' k'=>?_
  refine⟨rfl,h h' t be c' gG r' λb o e=>k' b o (Nat.ne_of_lt (Heap.lt_size e)) (λq=>?_) (hk b o (Heap.get?_push_of_some _ e))⟩
  exact nos (V6.symm.trans (q▸e))
 have zC: ∀(aI:Heap),(∀b o,(s.heap.push {cls:=Value.type "dict",data:= .dict #[]}).get? b=some o->aI.get? b=some o)->P aI.objs.size=none/\aI.objs.size≠s.heap.objs.size/\s.heap.get? aI.objs.size=none:=λaI hk=>by
  have bj:s.heap.objs.size<aI.objs.size:=Heap.lt_size (hk _ _ Do)
  refine⟨?_,Nat.ne_of_gt bj,?_⟩
  .cases q:P aI.objs.size with
   |none=>rfl
   |some o=>exact ax (Nat.lt_trans bj (Heap.lt_size (hp _ _ q))) (Nat.lt_irrefl _)
  .cases q:s.heap.get? aI.objs.size with
   |none=>rfl
   |some o=>exact ax (Nat.lt_trans bj (Heap.lt_size q)) (Nat.lt_irrefl _)
 rcases hT with rfl |rfl
 .refine wb (oy (T:="list") ⟨_,sV,rfl⟩ ?_)
  refine jB (λω=>?_) (λq=>ax (by decide) q)
  refine wb (Pc sV hh λaI jv gP=>?_)
  refine jB (λω=>?_) (λq=>ax rfl q)
  refine wb (fj ?_)
  obtain⟨p1,p2,p3⟩:=zC aI gP
  refine wb (xq (s:={s with heap:=aI,toks:=jv}) ⟨_,gP _ _ sV,rfl,_,rfl⟩ ?_)
  refine aq ⟨plainId_quiet tZ _,fin _ jv (λb o e=>Heap.get?_push_of_some _ (gP b o e)) aI.objs.size ?_ p1 p2 p3⟩
  have:=cA.list (p:=G.w.params) (P:=P) (h:=aI.push {cls:= .type "list_iterator",data:= .fields #[.ref r,.int 0 0]}) (it:=aI.objs.size) (i:=0) ⟨_,Heap.get?_push_size _ rfl,rfl,rfl⟩ hr rl
  simpa using this
 .refine wb (oy (T:="tuple") ⟨_,sV,rfl⟩ ?_)
  refine jB (λω=>?_) (λq=>ax (by decide) q)
  refine wb (OY sV hh λaI jv gP=>?_)
  refine jB (λω=>?_) (λq=>ax rfl q)
  refine wb (fj ?_)
  obtain⟨p1,p2,p3⟩:=zC aI gP
  refine wb (t5 (s:={s with heap:=aI,toks:=jv}) ⟨_,gP _ _ sV,rfl,_,rfl⟩ ?_)
  refine aq ⟨plainId_quiet tZ _,fin _ jv (λb o e=>Heap.get?_push_of_some _ (gP b o e)) aI.objs.size ?_ p1 p2 p3⟩
  have:=cA.tuple (p:=G.w.params) (P:=P) (h:=aI.push {cls:= .type "tuple_iterator",data:= .fields #[.ref r,.int 0 0]}) (it:=aI.objs.size) (i:=0) ⟨_,Heap.get?_push_size _ rfl,rfl,rfl⟩ hr rl
  simpa using this
theorem cT.LJ{A:bo}(R:cT n A):A.units+60<cLine:=Nat.lt_of_le_of_lt (Nat.add_le_add_right (Nat.le_trans (Nat.le_add_right _ _) R.units) 60) (by decide)
theorem PO(K:oM [] dz)(hz:dz.length<=sizeLine)(h: ∀d,σ d=none->Q (.raw (.ref d)) (aA σ d (.dict (hU [] dz)))):cK n (.type "dict") [.tup (iW dz)] σ Q:=by
 intro A X P s vs hA I r
 cases r using RepL.consE with |cons ra r=>
 cases r
 have hu:=hA.units
 cases ra using RepV.tupE with
 |tup e rl=>
  refine GS (.inr rfl) e I.p rl hA.handled hA.LJ K hz λh' t es c' ho r' k'=>?_
  exact⟨P,_,_,PM.le.refl P,I.alloc (t:=t) rfl k' ho (.dict r'),.raw _,h _ I.fresh.1⟩
theorem PP(K:oM [] dz)(hz:dz.length<=sizeLine)(h: ∀d,σ d=none->Q (.raw (.ref d)) (aA σ d (.dict (hU [] dz)))):cK n (.type "dict") [.lst (iW dz)] σ Q:=by
 intro A X P s vs hA I r
 cases r using RepL.consE with |cons ra r=>
 cases r
 have hu:=hA.units
 cases ra using RepV.vJ with
 |lst e rl=>
  refine GS (.inl rfl) e I.p rl hA.handled hA.LJ K hz λh' t es c' ho r' k'=>?_
  exact⟨P,_,_,PM.le.refl P,I.alloc (t:=t) rfl k' ho (.dict r'),.raw _,h _ I.fresh.1⟩
def H_(es:ae DictEntry):Prop:= ∀e∈es,∃k,(PySem.strKind G.prog G.w).is k e.key=true/\e.hash=(PySem.strKind G.prog G.w).hash k
inductive W6(P:PM)(l:ae (AV×AV))(es:ae DictEntry):Prop
 |mk (more:ae (Str×Value)) (h1:Pairs (PySem.strKind G.prog G.w) es more) (h2:l.map (·.1)=more.map λx=>AV.str x.1) (h3:H_ es) (h4: ∀be,Pairs (PySem.strKind G.prog G.w) be more->H_ be->bv G.w.params P l be)
theorem Qu{l:ae (AV×AV)}{es:ae DictEntry}(r:bv G.w.params P l es):(∀e∈l,dp e.1=1)->W6 P l es:=by
 induction r using bv.ind with
 |h0=>exactλω=>⟨[],.nil,rfl,(λe h=>ax h jf),λbe h ω=>by cases h;exact .nil⟩
 | @h1 k b kv v l es rk rb r ih=>
  intro ht
  obtain⟨more,h1,h2,h3,h4⟩:=ih λe he=>ht e (.tail _ he)
  obtain⟨x,e⟩:=BM (ht _ (.head _))
  replace e:k= .str x:=e
  subst e
  cases rk
  refine⟨(x,v)::more,.cons (ni x) rfl h1,congrArg (AV.str x:: ·) h2,λe he=>(aY.mp he).elim (λq=>q▸⟨x,ni x,rfl⟩) (h3 e),λbe hp hk=>?_⟩
  cases hp with
  | @cons e' _ W7 _ i1 i2 i3=>
   obtain⟨hs,ky,vl⟩:=e'
   obtain⟨k',j1,j2⟩:=hk _ (.head _)
   obtain⟨t',q⟩:=Value.isStrOf_shape i1
   replace q:ky= .str x t':=q
   replace i2:vl=v:=i2
   subst q i2
   have e2:k'=x:=(lZ (show(x==k')=true from j1)).symm
   subst e2
   exact(show hs=gj G.w.params (.str k') from j2)▸ .cons (.str _ _) rb (h4 W7 i3 λe he=>hk e (.tail _ he))
theorem Pm{l:ae (AV×AV)}(ht: ∀e∈l,dp e.1=1)(hn:(l.map (·.1)).Nodup)(hz:l.length<=sizeLine)(h: ∀d,σ d=none->Q (.raw (.ref d)) (aA σ d (.dict l))):cK n (.type "dict") [.ca l] σ Q:=by
 intro A X P s vs hA I r
 cases r using RepL.consE with |cons ra r=>
 cases r
 cases ra with
 | @ca _ d es c hd hs rl=>
  obtain⟨more,h1,h2,h3,h4⟩:=Qu rl ht
  have hlen:more.length=l.length:=(ar _).symm.trans ((congrArg xH h2).symm.trans (ar _))
  have mO:(more.map (·.1)).Nodup:=by
   rw[h2,show(more.map (λx=>AV.str x.1))=(more.map (·.1)).map AV.str from cQ.symm] at hn
   exact NB AV.str (λa b fS q=>fS (congrArg _ q)) hn
  have hD:s.heap.DictOf (PySem.strKind G.prog G.w) d more:=⟨_,es,c,I.p _ _ hd,⟨rfl,rfl,rfl⟩,rfl,λe he=>h3 e (Ar.mpr he),h1,mO⟩
  refine kt_call_dict (pW.mpr hs) hD (by rw[hlen];exact hz) λh' hm tB=>?_
  obtain⟨⟨cls,dd,dat,sl⟩,be,c',gG,⟨x1,x2,x3⟩,W8,bJ,cZ,_⟩:=hm
  cases x1
  cases x2
  cases x3
  cases W8
  have r':=h4 be.toList cZ λe he=>bJ e (Ar.mp he)
  have W9:h'.get? s.heap.objs.size=some (bZ be c'):=gG
  exact⟨P,_,_,PM.le.refl P,I.alloc (t:=s.toks) rfl (λb o e=>(tB.2 b (Nat.ne_of_lt (Heap.lt_size e))).trans (Heap.get?_push_of_some _ e)) W9 (.dict r'),.raw _,h _ I.fresh.1⟩
end
section
variable{n:Nat}{af:Env}{m:au}{X P:PM}{σ:ah}{s:Shared}{A:bo}{E:Value->Shared->Prop}{Q:AV->ah->Prop}
theorem yT(hd: ∀a∈l,aM 4 a/\ ∀b∈l,dp b=dp a)(hz:l.length<=60)(h: ∀d l',σ d=none->(∀a,a∈l'↔a∈l)->l'.length<=l.length->Q (.raw (.ref d)) (aA σ d (.set l'))):cK n (.type "set") [.lst l] σ Q:=by
 intro A X P s vs hA I r
 cases r using RepL.consE with |cons ra r=>
 cases r
 have hu:=hA.units
 cases ra using RepV.vJ with
 |lst e rl=>
  refine Rt hA.handled (by unfold cLine;lia) I.p e rl hd hz λh' t l' S m' z' k'=>?_
  obtain⟨es,ep,tt,ho,H,tC,_⟩:=S
  exact⟨P,_,_,PM.le.refl P,I.alloc (t:=t) rfl k' ho (.set H tC),.raw _,h _ l' I.fresh.1 m' z'⟩
set_option tactic.hygienic true in
theorem Qw{d:Addr}(hd:σ d=some (.set l))(hz:l.length<2^63)(h:Q (.int l.length) σ):cK n (.builtin "len") [.raw (.ref d)] σ Q:=by
 intro A X P s vs hA I r
 cases r using RepL.consE with |cons ra r=>
 cases r;cases ra
 obtain⟨o,ho,ro⟩:=I.st _ _ hd
 cases ro with
 |set k rl=>
  rename_i es ep t
  have e1:es.size=l.length:=by have:=rl.length;simp at this;lia
  refine call_len_set ho ⟨rfl,rfl,rfl⟩ rfl (k.tok.fits (k.tok.le k.room)) (by rw[e1];lia) ?_
  exact⟨P,σ,_,PM.le.refl P,I.tok (s.toks+1+1),by rw[e1];exact .int _ _,h⟩
noncomputable def jw:ae aj->aj
 |[]=>0
 |a::l=>a+jw l
theorem Qx(l:ae aj)(k:Nat):k<=l.length->preSum (λi=>l.getD i 0) k=jw (l.take k):=by
 induction k with
 |zero=>exactλω=>rfl
 |succ k ih=>
  intro h
  have hk:k<l.length:=h
  have add: ∀(a b:ae aj),jw (a++b)=jw a+jw b:=λa b=>by
   induction a with
   |nil=>exact(aj.zero_add _).symm
   |cons x a ih=>exact(congrArg (x+ ·) ih).trans (aj.add_assoc ..).symm
  show preSum _ k+_=_
  rw[ih (Nat.le_of_lt h),<- ae.take_append_getElem hk,add]
  show _+l.getD k 0=_+(l[k]+0)
  rw[aj.add_zero,ip,cL hk];rfl
theorem vB(hz:ns.length<=sizeLine)(h:Q (.int (jw ns)) σ):cK n (.builtin "sum") [.lst (ns.map .int)] σ Q:=by
 intro A X P s vs hA I r
 cases r using RepL.consE with |cons ra r=>
 cases r
 cases ra with
 | @lst _ d items c e rl=>
  have ho:=I.p _ _ e
  have e1:items.size=ns.length:=by rw[<- ck,<- rl.length];simp
  have hl:s.heap.IsList d items:=⟨_,ho,rfl,_,rfl⟩
  refine call_sum_walkAnyS (xq hl ?_)
  have bj:=Heap.lt_size ho
  refine⟨_,_,_,_,_,_,_,λi=>ns.getD i 0,rfl,(Walks.list (A:=A.in1) hA.handled s.heap.objs.size d (Nat.ne_of_lt bj) items).toS,⟨⟨_,Heap.get?_push_size _ rfl,rfl,rfl⟩,hl.push _⟩,λb hb=>?_,λi v hv=>?_,λs' t' hm=>?_⟩
  .show b<(s.heap.push _).objs.size
   rw[Heap.size_push]
   rcases aY.mp hb with rfl |hb
   .exact Nat.lt_succ_self _
   .rw[aW.mp hb];exact Nat.lt_succ_of_lt bj
  .have hi:i<items.size:=by
    rcases Nat.lt_or_ge i items.size with q |q
    .exact q
    .rw[Am q] at hv;cases hv
   obtain⟨u,hu,ru⟩:=rl.get (i:=i) (x:= .int (ns.getD i 0)) (by simp[show i<ns.length by lia])
   rw[dR] at hu
   rw[hv] at hu;cases hu
   obtain⟨t,q⟩:=yd ru
   exact⟨t,q⟩
  .rw[OM hm]
   have e2:preSum (λi=>ns.getD i 0) items.size=jw ns:=by rw[Qx ns items.size (by lia),e1,g8]
   refine⟨P,σ,_,PM.le.refl P,I.grow (t:=s'.toks) λb o eb=>hm.heap b o (λhb=>?_) (Heap.get?_push_of_some _ eb),?_,h⟩
   .rw[aW.mp hb] at eb;exact ax (Heap.lt_size eb) (Nat.lt_irrefl _)
   .rw[e2];exact .int _ _
end
section
variable{n:Nat}{af:Env}{m:au}{X P:PM}{σ:ah}{s:Shared}{A:bo}{E:Value->Shared->Prop}{Q:AV->ah->Prop}
theorem V7(h0:ns≠[])(h: ∀i,Q (.int i) σ):cK n (.builtin "max") [.lst (ns.map .int)] σ Q:=by
 intro A X P s vs hA I r
 cases r using RepL.consE with |cons ra r=>
 cases r
 cases ra with
 | @lst _ d items c e rl=>
  have ho:=I.p _ _ e
  have e1:items.size=ns.length:=by rw[<- ck,<- rl.length];simp
  have hl:s.heap.IsList d items:=⟨_,ho,rfl,_,rfl⟩
  have Kz:0<ns.length:=by cases ns with
   |nil=>exact ax rfl h0
   |cons a l=>simp
  have at_: ∀(i:Nat) (v:Value),items[i]? =some v-> ∃t,v=Value.int (ns.getD i 0) t:=λi v hv=>by
   have hi:i<items.size:=by
    rcases Nat.lt_or_ge i items.size with q |q
    .exact q
    .rw[Am q] at hv;cases hv
   obtain⟨u,hu,ru⟩:=RepL.get rl (i:=i) (x:=AV.int (ns.getD i 0)) (by simp[show i<ns.length by lia])
   rw[dR] at hu
   rw[hv] at hu;cases hu
   exact yd ru
  refine call_max_walkS (xq hl ?_)
  have bj:=Heap.lt_size ho
  refine⟨_,_,_,_,_,_,_,_,rfl,(Walks.list (A:=A.in1) hA.handled s.heap.objs.size d (Nat.ne_of_lt bj) items).toS,⟨⟨_,Heap.get?_push_size _ rfl,rfl,rfl⟩,hl.push _⟩,λb hb=>?_,by lia,CmpOf.ints_gt (λi=>ns.getD i 0) at_,λv s' hv hm=>?_⟩
  .show b<(s.heap.push _).objs.size
   rw[Heap.size_push]
   rcases aY.mp hb with rfl |hb
   .exact Nat.lt_succ_self _
   .rw[aW.mp hb];exact Nat.lt_succ_of_lt bj
  .obtain⟨t,rfl⟩:=at_ _ _ hv
   rw[OM hm]
   refine⟨P,σ,_,PM.le.refl P,I.grow (t:=s'.toks) λb o eb=>hm.heap b o (λhb=>?_) (Heap.get?_push_of_some _ eb),.int _ _,h _⟩
   rw[aW.mp hb] at eb;exact ax (Heap.lt_size eb) (Nat.lt_irrefl _)
theorem GT(h0:l≠[])(hz:l.length*k<=1000)(h: ∀l',(∀a∈l',a∈l)->l'.length=l.length*k->Q (.lst l') σ):cD n σ (my .Mult (.lst l) (.int k)) Q:=by
 rintro af m A X P s c hA T ⟨u,v,ru,rv,rfl⟩
 cases rv with
 |int _ t=>
 cases ru with
 | @lst _ d items c e rl=>
  have ho:=T.inv.p _ _ e
  have e1:items.size=l.length:=by rw[<- ck,<- rl.length]
  have hzz:items.size*((k:aj)).toNat<=1000:=by rw[e1];simpa using hz
  have Kz:0<l.length:=ae.length_pos_iff.mpr h0
  have bJ:k<=1000:=by
   have:1*k<=l.length*k:=Nat.mul_le_mul_right _ Kz
   lia
  have W_: ¬items.size=0:=by lia
  have fin: ∀(bW:ay Value),bW.toList=(t_ k items.toList).flatten->aC (At af m X) P (RepV G.w.params) Q (.ref s.heap.objs.size) {s with heap:=s.heap.push (cw bW 0)}:=by
   intro bW he
   have hr: ∀k,∃l',(∀a∈l',a∈l)/\l'.length=l.length*k/\RepL G.w.params P l' (t_ k items.toList).flatten:=by
    intro k
    induction k with
    |zero=>exact⟨[],(λω h=>by cases h),by simp,by simp;exact .nil⟩
    |succ k ih=>
     obtain⟨l',h1,h2,h3⟩:=ih
     refine⟨l++l',λa ha=>(cy.mp ha).elim id (h1 a),by rw[bQ,h2,Nat.mul_succ,Nat.add_comm],?_⟩
     rw[ae.replicate_succ,ae.flatten_cons]
     exact rl.append h3
   obtain⟨l',h1,h2,h3⟩:=hr k
   refine T.frozen (t:=s.toks) (o:=cw bW 0) (h':=s.heap.push (cw bW 0)) rfl (λa o e=>Heap.get?_push_of_some _ e) (Heap.get?_push_size _ rfl) λP' hP eP T'=>?_
   exact⟨P',σ,_,hP,T',.lst eP (he▸h3.mono hP),h l' h1 h2⟩
  have fo: ∀(ls:ae (ay Value)) (acc:ay Value),(ae.foldl (λx1 x2=>x1++x2) acc ls).toList=acc.toList++(ls.map (·.toList)).flatten:=by
   intro ls
   induction ls with
   |nil=>intro acc;simp
   |cons a ls ih=>intro acc;rw[Oy,ih];simp
  have hf:MV (k:aj)=true:=by
   unfold MV
   simp
   lia
  have pP: ¬items.size*((k:aj)).toNat>(2^63 - 1)/8:=by
   have:(1000:Nat)<=(2^63 - 1)/8:=by decide
   lia
  have tI: ¬xj (items.size*((k:aj)).toNat)=true:=by
   have:xj (items.size*((k:aj)).toNat)=false:=by
    unfold xj;exact cu (by rw[eZ];lia)
   rw[this];simp
  have KC:aC (At af m X) P (RepV G.w.params) Q (.ref s.heap.objs.size) {s with heap:=s.heap.push {cls:=Value.type "list",data:=Data.seq (ae.foldl (λx1 x2=>x1++x2) #[] (t_ (if items.isEmpty=true then 0 else((k:aj)).toNat) items))},toks:=s.toks}:=by
   refine fin _ ?_
   rw[fo]
   have:items.isEmpty=false:=by simpa using W_
   simp[this]
  generalize (k:aj)=kk at hf pP tI KC ⊢
  refine wpAny_binaryOp_repeat_ref (T:="list") (U:="int") (by decide) ⟨_,ho,rfl⟩ (λs'=>typeIs_int s' kk t) noFill_list_mul F.fills_int_mul F.slot_int_rmul repeat_list F.slot_int_index.lookup
   (uk F.slot_int_rmul (typeIs_int s kk t) F.entry_int_rmul (F.args_int_rmul_2 _ _) (int___rmul___int_list kk t d items c)
    ⟨ho,rfl,⟨_,ho,rfl⟩,uk F.slot_list_mul ⟨_,ho,rfl⟩ F.entry_list_mul (F.args_list_mul_2 _ _)
     (AutoListH.list___mul___list_int_3 d items c kk t (by rw[hf];simp) pP tI)
     ⟨ho,KC⟩⟩)
theorem Qy(h:Q (.raw (.bool (F9 x))) σ):cK n (.builtin "str.isspace") [.str x] σ Q:=by
 intro A X P s vs hA I r
 cases r using RepL.consE with |cons ra r=>
 cases r;cases ra
 exact PySem.SC.isspace ⟨P,σ,_,PM.le.refl P,I,.raw _,h⟩
theorem RK{y:Str}(h:Q (.raw (.bool (xG x y))) σ):cD n σ (eU .In (.str y) (.str x)) Q:=by
 rintro af m A X P s c hA T ⟨u,v,ru,rv,rfl⟩
 cases ru;cases rv
 exact SB.contains (aC.now T (.raw _) h)
theorem Pn{y:Str}(h:Q (.raw (.bool (!(xG x y)))) σ):cD n σ (eU .NotIn (.str y) (.str x)) Q:=by
 rintro af m A X P s c hA T ⟨u,v,ru,rv,rfl⟩
 cases ru;cases rv
 exact PyProof.Rows.notIn_str (aC.now T (.raw _) h)
set_option tactic.hygienic true in
theorem Tx{y:Str}{rest:ae Nat}(hi:Ng x y 0 x.length 1=i::rest)(h:Q (.int i) σ):cK n (.builtin "str.index") [.str x,.str y] σ Q:=by
 intro A X P s vs hA I r
 cases r using RepL.consE with |cons ra r=>
 cases r using RepL.consE with |cons rb r=>
 cases r;cases ra;cases rb
 rename_i t u
 exact call_gives F.slot_str_index (typeIs_str _ _ _) F.entry_str_index (F.args_str_index_2 _ _) (gives_str_index x y t u i rest hi) ⟨P,σ,_,PM.le.refl P,I.tok _,.int _ _,h⟩
theorem GU{i:aj}(hi:i.natAbs.log2<1920)(h:Q (.str (toString i)) σ):cK n (.type "str") [.int i] σ Q:=by
 intro A X P s vs hA I r
 cases r using RepL.consE with |cons ra r=>
 cases r;cases ra
 exact PySem.P.str_of_int hi ⟨P,σ,_,PM.le.refl P,I.tok _,.str _ _,h⟩
theorem Qz{i:aj}(hi:PySem.intText? x=some i)(hl:x.length<=640)(h:Q (.int i) σ):cK n (.type "int") [.str x] σ Q:=by
 intro A X P s vs hA I r
 cases r using RepL.consE with |cons ra r=>
 cases r;cases ra
 exact PySem.W.KIN.call_text hi hl ⟨P,σ,_,PM.le.refl P,I.tok _,.int _ _,h⟩
theorem PQ{i:aj}{c:Nat}(hs: ∀o i,subscripted slice false o i=operate [o,i] (jk o i))(hr:(decide (i< -(2^63:aj))||decide (i>=2^63))=false)(hc:(A7 i x.length).bind (x.cps[·]?)=some c)
  (h:Q (.str ⟨#[c]⟩) σ):cD n σ (mD value slice (.str x) (.int i)) Q:=by
 rintro af m A X P s cc hA T ⟨u,v,ru,rv,rfl⟩
 cases ru;cases rv
 exact xU (typeIs_str _ _ _) PySem.F.slot_str_getitem.lookup (hs _ _) (PySem.P.getItem_str hr hc (aC.now (T.tok _) (.str _ _) h))
end
section
variable{n:Nat}{af:Env}{m mL:au}{X P:PM}{σ:ah}{s:Shared}{A:bo}
variable{t t0 t1 gV fT elt:Expr}{Z Z':PM->Heap->Value->ae Addr->ae AV->Prop}{gens:ae uc}{scope:Scope}{pos:Pos}{cl:ae (Str×Addr)}
set_option tactic.hygienic true in
theorem CS.inner(H:kI af m scope cl)(hZ:jn t Z){D:Addr}{iv Ed:Value}{fp pK:ae Addr}{acc r:ae AV}{iw:au}{s':Shared}
  (S:CS Z af m (λω=>none) X P σ C D iv fp acc r s) (S':CS Z af m (λω=>none) X P' σ' C D iv fp acc r s')
  (T':At (fL scope cl af C) iw (CX af s.heap D fp X) P' σ' s') (O':bM (fL scope cl af C) (CX af s.heap D fp X) P' σ' pK) (I':Z' P' s'.heap Ed pK l')
  (hL: ∀x b,mL x=some b->(l8 scope af).names.lookup x=some .local/\iw x=some b):
  CS Z' af m mL (Mine.dD fp s'.heap X) P' σ' C D Ed pK acc l' s':=by
 have OF:bM af X P' σ' fp:=S'.O.sub λa ha=> .tail _ (.tail _ ha)
 obtain⟨items,k,hd,_⟩:=S.acc
 have bO: ∀a∈pK,a≠D/\a∉fp/\X a=none/\a≠af.locals/\ ∀x,af.cells.lookup x≠some a:=λa ha=>by
  obtain⟨_,h2,_,_,_⟩:=O' a ha
  unfold CX Mine.guard at h2
  split at h2
  .rename_i q
   exfalso
   rcases q with q |⟨x,q⟩
   .obtain⟨mc,hn,_⟩:=S.T.fr.ns
    obtain⟨o,ho⟩:=Heap.Ns.some hn
    rw[q,ho] at h2;cases h2
   .obtain⟨⟨v,hv,_⟩,_⟩:=S.T.fr.cell x a q
    obtain⟨o,ho⟩:=Heap.IsCell.some hv
    rw[ho] at h2;cases h2
  .rename_i q
   unfold Mine.dD at h2
   split at h2
   .rename_i q'
    exfalso
    rcases aY.mp q' with e |hm
    .rw[e,hd] at h2;cases h2
    .obtain⟨o,ho⟩:=hZ.d_ S.it a hm
     rw[ho] at h2;cases h2
   .rename_i q'
    exact⟨λe=>q' (e▸ .head _),λhm=>q' (.tail _ hm),h2,λe=>q (.inl e),λx e=>q (.inr ⟨x,e⟩)⟩
 obtain⟨mc,hn,hm⟩:=T'.fr.ns
 refine⟨S'.T.dD OF,λa ha=>?_,S'.cd,λhc=>(O' C hc).2.2.2.1 rfl,λhc=>(bO D hc).1 rfl,⟨mc,hn,λx b e=>hm x (hL x b e).1 b (hL x b e).2⟩,S'.acc,I'⟩
 have px: ∀b,b∉fp->Mine.dD fp s'.heap X b=X b:=λb hb=>by unfold Mine.dD;rw[aK hb]
 rcases aY.mp ha with e |ha
 .subst e
  obtain⟨h1,h2,h3,h4,h5⟩:=S'.O a (.head _)
  exact⟨h1,(px a S'.cf).trans h2,h3,h4,h5⟩
 .rcases aY.mp ha with e |ha
  .subst e
   obtain⟨h1,h2,h3,h4,h5⟩:=S'.O a (.tail _ (.head _))
   exact⟨h1,(px a S'.df).trans h2,h3,h4,h5⟩
  .obtain⟨f1,f2,f3,f4,f5⟩:=bO a ha
   obtain⟨h1,_,h3,_,_⟩:=O' a ha
   exact⟨h1,(px a f2).trans f3,h3,f4,f5⟩
abbrev YL(n:Nat)(af:Env)(scope:Scope)(cl:ae (Str×Addr))(C:Addr)(t1 elt:Expr)(m m₁:au)(I:Nat->ae AV->ah->Prop)(i:Nat)(acc:ae AV):ae AV->ah->Prop:=λl' aO=>
 ∃(J:Nat->ae AV->ah->Prop) (mL:au),(∀x b,mL x=some b->(l8 scope af).names.lookup x=some .local/\m₁ x=some b)/\J 0 acc aO/\CE n af scope cl C t1 elt [] m mL l' J/\ ∀i9 dZ,J l'.length i9 dZ->I (i+1) i9 dZ
def JR(n:Nat)(af:Env)(scope:Scope)(cl:ae (Str×Addr))(t0 t1 fT elt:Expr)(m:au)(l:ae AV)(I:Nat->ae AV->ah->Prop):Prop:=
 ∀C i a acc σ,l[i]? =some a->I i acc σ->let ce:=fL scope cl af C;let cm:=oX scope af m λω=>none;let J:=I;fw n ce t0 a cm σ λm₁ ap=>iy n ce t1 fT m₁ ap (YL n af scope cl C t1 elt m m₁ J i acc)
theorem Hh(H:kI af m scope cl)(hs: ∀af x,g0 fT af x=pure x){D:Addr}{iv:Value}{fp:ae Addr}{qx:ae AV}(hA:cT n A)(hZ:jn t0 Z)(S:CS Z af m (λω=>none) X P σ C D iv fp qx l s)
  (h0:I 0 qx σ) (hb:JR n af scope cl t0 t1 fT elt m l I)
  (kk: ∀acc P' σ' s',P.le P'->At af m X P' σ' s'->bM af X P' σ' [C,D]->(∃mc,s'.heap.Ns C mc)->(∃items k,s'.heap.get? D=some (cw items k)/\RepL G.w.params P' acc items.toList)->I l.length acc σ'->R (.ok .next) s'):
  fX GM A (.compStart (.ListComp elt [⟨t0,gV,[],0⟩,⟨t1,fT,[],0⟩] scope pos) 0 iv (.ref D) (fL scope cl af C)) R s:=by
 have loop:fX GM A (.compLoop (.ListComp elt [⟨t0,gV,[],0⟩,⟨t1,fT,[],0⟩] scope pos) 0 iv (.ref D) (fL scope cl af C)) R s:=by
  refine GI (target:=t0) (iter:=gV) (ifs:=[]) rfl (JA Z af m (λω=>none) X P C D iv fp l I) (λk aH hI=>?_) l.length ⟨0,qx,P,σ,Nat.zero_add _,PM.le.refl P,S,h0⟩
  obtain⟨i,acc,aR,ap,j7,aJ,ix,aD⟩:=hI
  cases hl:l.drop i with
  |nil=>
   have hi:i=l.length:=BD j7 (Aq.mp hl)
   subst hi
   exact ix.stop hZ hA.handled hl λbA aV bm ba gy ⟨CF,lG,_⟩ lH=>kk acc bA ap aV (aJ.trans bm) ba gy ⟨CF,lG⟩ lH aD
  |cons x r=>
   have hx:=lc hl
   have bj:i<l.length:=BE hl
   refine ix.next hZ hl (λv gR z=>z) λv bA aV bm rv kO=>?_
   have Dc:=kO.enter (scope:=scope) H.ok H.fn
   refine bT (hb C i x acc ap hx.1 aD A _ bA aV v hA Dc rv) (λω eJ pq=>?_) λω ω e=>e
   obtain⟨iw,eK,dZ,cX,c8,bK⟩:=pq
   refine TC.Uu (TC.S7 rfl rfl (hs _) ?_)
   refine bT (bK A _ eK eJ hA c8) (λy gR dO=>bT dO (λEd o_ di=>?_) λω ω e=>e) λω ω e=>e
   obtain⟨mA,sO,l',Z',pK,YM,jo,gx,y4,s_,J,mL,hL,hJ,zo,Df⟩:=di
   have jU:=kO.leave hZ (cX.trans jo) gx (λx b e=>nomatch e)
   have Si:=CS.inner H hZ kO jU gx y4 s_ hL
   refine Br (iter:=fT) H hA YM rfl rfl Si hJ zo λi9 pc oV vQ kK i7 KD Xa Xb YN=>?_
   have OF:bM af X mA sO fp:=jU.O.sub λa ha=> .tail _ (.tail _ ha)
   obtain⟨qL,vR,vS⟩:=i7.qe OF λa ha=>hZ.d_ jU.it a ha
   obtain⟨mc,hn,_⟩:=Xa
   refine⟨k - 1,(oG j7 bj).1,i+1,i9,pc,oV,(oG j7 bj).2,aJ.trans (bm.trans ((cX.trans jo).trans kK)),⟨qL,λa ha=>?_,jU.cd,jU.cf,jU.df,⟨mc,hn,λx b e=>nomatch e⟩,Xb,?_⟩,Df i9 oV YN⟩
   .rcases aY.mp ha with e |ha
    .subst e
     obtain⟨h1,_,h3,h4,h5⟩:=KD a (.head _)
     exact⟨h1,(jU.O a (.head _)).2.1,h3,h4,h5⟩
    .rcases aY.mp ha with e |ha
     .subst e
      obtain⟨h1,_,h3,h4,h5⟩:=KD a (.tail _ (.head _))
      exact⟨h1,(jU.O a (.tail _ (.head _))).2.1,h3,h4,h5⟩
     .exact vS a ha
   .rw[hx.2]
    exact hZ.same jU.it kK vR
 exact Gl (target:=t0) (iter:=gV) (ifs:=[]) rfl loop (hZ.again S.it loop)
inductive Ci(n:Nat)(af:Env)(scope:Scope)(cl:ae (Str×Addr))(t0 t1 fT elt:Expr)(m:au)(Q:ae AV->ah->Prop)(l:ae AV)(ap:ah):Prop
 |mk (I:Nat->ae AV->ah->Prop) (h0:I 0 [] ap) (hb:JR n af scope cl t0 t1 fT elt m l I) (he: ∀acc aO,I l.length acc aO->Q acc aO)
theorem Ty{Q:AV->ah->Prop}(cl:ae (Str×Addr))
  (h:iy n af t0 gV m σ (Ci n af scope cl t0 t1 fT elt m λacc=>Q (.lst acc))) (H:kI af m scope cl) (hs: ∀x,pure x=g0 gV af x) (og: ∀af x,pure x=g0 fT af x):
  aQ n af (.ListComp elt [⟨t0,gV,[],0⟩,⟨t1,fT,[],0⟩] scope pos) m σ Q:=by
 intro A X P s hA T
 show ai _ _ (comprehension _ scope af _ (qm []) false (eval gV af)) _ _ s
 refine xV H (λx=>(hs x).symm) hA T h λC D iv fp l aR ap aH Z hZ aJ S hq=>?_
 obtain⟨I,h0,hb,he⟩:=hq
 refine Hh H (λe x=>(og e x).symm) hA hZ S h0 hb λacc bA aO aV bm ba gy lG lH aI=>⟨lG,λh' eX=>?_⟩
 refine xz ba gy S.cd lH λeK cX fO iz c8=>?_
 exact⟨eK,aO,_,(aJ.trans bm).trans cX,c8.y6 iz eX,fO,he _ _ aI⟩
theorem Tz{Q:AF->au->ah->Prop}{px pos':Pos}(cl:ae (Str×Addr))(H:kI af m scope cl)(hs: ∀x,g0 gV af x=pure x)(og: ∀af x,g0 fT af x=pure x)(hx:af.kindOf x=some .local)
  (q8:uw (.ListComp elt [⟨t0,gV,[],0⟩,⟨t1,fT,[],0⟩] scope pos) (some (.Name x px)) pos'.line af=pure true)
  (h:iy n af t0 gV m σ (Ci n af scope cl t0 t1 fT elt m λacc=>Q .next (fN m x (.lst acc)))):
  jR n af (.Assign [.Name x px] (.ListComp elt [⟨t0,gV,[],0⟩,⟨t1,fT,[],0⟩] scope pos) pos') m σ Q:=by
 intro A X P s hA T
 rw[Nx (hs:=q8)]
 refine wb (fi (wb ?_))
 rw[M_]
 show ai _ _ (comprehension _ scope af _ (qm []) false (eval gV af) (some _)>>=_) _ _ s
 refine wb (xV H hs hA T h λC D iv fp l aR ap aH Z hZ aJ S hq=>?_)
 obtain⟨I,h0,hb,he⟩:=hq
 refine Hh H og hA hZ S h0 hb λacc bA aO aV bm ba gy lG lH aI=>?_
 refine xz ba gy S.cd lH λeK cX fO iz c8=>?_
 obtain⟨mc,hn⟩:=lG
 obtain⟨oC,hC⟩:=Heap.Ns.some hn
 have gx:=c8.dD iz
 refine Ax (oB gx fO hx H.fn λgR i7=>?_)
 obtain⟨qL,vR,vS⟩:=i7.qe iz λa ha=>by rw[aW] at ha;exact⟨oC,ha▸hC⟩
 refine⟨⟨mc,Heap.Ns.same hn (vR C (.head _))⟩,λh' eX=>aq (aq ?_)⟩
 exact⟨_,eK,aO,.next,(aJ.trans bm).trans cX,qL.y6 vS eX,.next,he _ _ aI⟩
end
section
variable{n:Nat}{af:Env}{m:au}{X P:PM}{σ:ah}{s:Shared}{A:bo}{E:Value->Shared->Prop}{Q:AV->ah->Prop}
inductive V8(y:Str)(Q:AV->ah->Prop)(a:AV)(ap:ah):Prop
 |mk (x:Str) (e:a= .str x) (z:(x++y).length<=1000) (q:Q (.str (x++y)) ap)
theorem Cj{e:Expr}{y:Str}{p1 p2 pos:Pos}(h:aQ n af e m σ (V8 y Q)):
  aQ n af (.JoinedStr [.FormattedValue e (-1) none p1,.Constant (.str y) k p2] pos) m σ Q:=by
 intro A X P s hA T
 refine JoinedStr_many (OI (FormattedValue_plain ?_))
 refine aC.with (h A X P s hA T) λv aH aR ap a aJ aL bF pq=>?_
 obtain⟨x,e,hz,q⟩:=pq
 subst e;cases bF
 rw[FR] at hz
 refine formatField_str (λt' tk=>?_) (by rw[eZ];lia)
 have e0:Str.empty++x=x:=by
  show Str.mk (Str.empty.cps++x.cps)=x
  obtain⟨c⟩:=x
  show Str.mk (#[]++c)=_
  simp
 refine⟨by rw[e0,eZ];lia,?_⟩
 show ai _ _ (joinParts (Str.empty++x) [eval (.Constant (.str y) k p2) af]) _ _ _
 rw[e0]
 refine OI (Constant_str ?_)
 refine⟨by rw[FR,eZ];lia,joinParts_nil ?_ (by rw[FR,eZ];lia)⟩
 exact aC.up aJ (aC.now ((aL.tok _).tok _) (.str _ _) q)
end
noncomputable def am(k:Nat):AV:= .int (k:aj)
noncomputable abbrev S(x:dK):Str:=Str.ofString x
noncomputable def lC(par:ae Nat):Nat->Nat->Nat
 |0,a=>a
 |k+1,a=>if par.getD a a=a then a else lC par k (par.getD a a)
noncomputable def aE(par:ae Nat)(a:Nat):Nat:=lC par a a
theorem r5(par:ae Nat)(k a:Nat):lC par (k+1) a=if par.getD a a=a then a else lC par k (par.getD a a):=rfl
def iD(par:ae Nat):Prop:= ∀i,par.getD i i<=i
theorem RL(hp:iD par): ∀(c k:Nat),c<=k->lC par k c=lC par c c:=by
 intro c
 induction c using Nat.strongRecOn with
 |_ c ih=>
  intro k hk
  cases c with
  |zero=>
   have h0:=hp 0
   cases k with
   |zero=>rfl
   |succ k=>exact(r5 ..).trans (if_pos (Nat.le_zero.mp h0))
  |succ c=>
   cases k with
   |zero=>lia
   |succ k=>
    rw[r5,r5]
    by_cases hq:par.getD (c+1) (c+1)=c+1
    .rw[if_pos hq,if_pos hq]
    .rw[aK hq,aK hq]
     have:=hp (c+1)
     rw[ih _ (by lia) k (by lia),ih _ (by lia) c (by lia)]
theorem kt{b:Nat}(h:par.getD b b=b):aE par b=b:=by
 unfold aE
 cases b with
 |zero=>rfl
 |succ b=>exact(r5 ..).trans (if_pos h)
theorem uB(hp:iD par)(b:Nat):aE par (par.getD b b)=aE par b:=by
 by_cases h:par.getD b b=b
 .rw[h]
 .have:=hp b
  cases b with
  |zero=>lia
  |succ b=>
   unfold aE
   rw[show lC par (b+1) (b+1)=lC par b (par.getD (b+1) (b+1)) from by rw[lC,aK h]]
   rw[RL hp _ b (by lia)]
theorem nF(hp:iD par): ∀b,par.getD (aE par b) (aE par b)=aE par b/\aE par b<=b:=by
 intro b
 induction b using Nat.strongRecOn with
 |_ b ih=>
  by_cases h:par.getD b b=b
  .rw[kt h];exact⟨h,Nat.le_refl _⟩
  .have:=hp b
   obtain⟨h1,h2⟩:=ih (par.getD b b) (by lia)
   rw[uB hp] at h1 h2
   exact⟨h1,by lia⟩
set_option genInjectivity false in
structure UA where
 x:Addr
 du:Addr
 ab:Addr
 lo:Addr
 me:Addr
noncomputable def UA.self(u:UA):AV:= .obj u.x 339 u.du
structure ff(u:UA)(par:ae Nat)(bn:ae (ae Nat))(la:ae Addr)(mg:ae AV)(σ:ah):Prop where
 at_:σ u.du=some (.attrs [(S "above",.raw (.ref u.ab)),(S "lots",.raw (.ref u.lo)),(S "merged",.raw (.ref u.me))])
 ab:σ u.ab=some (.list (par.map am))
 lo:σ u.lo=some (.list (la.map λa=> .raw (.ref a)))
 me:σ u.me=some (.list mg)
 each: ∀(i:Nat) (a:Addr) (l:ae Nat),la[i]? =some a->bn[i]? =some l->σ a=some (.list (l.map am))
 len:la.length=bn.length
 bO:(u.du::u.ab::u.lo::u.me::la).Nodup
section
variable{n:Nat}{af:Env}{m:au}{σ:ah}{Q:AV->ah->Prop}
end
section
variable{n:Nat}{af:Env}{m:au}{X P:PM}{σ:ah}{s:Shared}{Q:AV->ah->Prop}
def vX(σ' σ:ah):Prop:= ∀a ao,σ' a=some ao->σ a=some ao
theorem vX.refl(σ:ah):vX σ σ:=λω ω h=>h
theorem RM{σ:ah}{a:Addr}(h:σ a=none):vX σ (aA σ a o):=λb ao e=>by
 rw[oQ];exact e
 intro q;rw[q,h] at e;cases e
inductive JS(Q:AV->ah->Prop)(a:AV)(ap:ah):Prop
 |mk (aO:ah) (h:vX aO ap) (q:Q a aO)
theorem UK{e:Expr}(h:aQ n af e m σ (JS Q)):aQ n af e m σ Q:=λA X P s hA T=>
 aC.with (h A X P s hA T) λv s' P' σ' b hP T' r ⟨aO,hl,q⟩=>⟨P',aO,b,hP,T'.sub hl,r,q⟩
theorem mi{f:Value}{args:ae AV}(h:aT n f args σ (JS Q)):aT n f args σ Q:=λA X P s vs hA T r=>
 lV (h A X P s vs hA T r) λr s' ⟨P',σ',b,v,e,hP,I',rv,aO,hl,q⟩=>⟨P',aO,b,v,e,hP,I'.sub hl,rv,q⟩
def dg(σ σ':ah):Prop:= ∀a o,σ a=some o->σ' a=some o
theorem iR{σ:ah}{a:Addr}(h:σ a=none):dg σ (aA σ a o):=λb ao e=>by
 rw[oQ];exact e
 intro q;rw[q,h] at e;cases e
theorem ff.keep{u:UA}(U:ff u par bn la mg σ)(k:dg σ σ'):ff u par bn la mg σ':=
 ⟨k _ _ U.at_,k _ _ U.ab,k _ _ U.lo,k _ _ U.me,λi a l h1 h2=>k _ _ (U.each i a l h1 h2),U.len,U.bO⟩
noncomputable def dJ(par:ae Nat):ae Nat:=(c7 par.length).filter λa=>par.getD a a=a
theorem xL: ∀(k:Nat) (lo:Nat),jF (lo:aj) k=(AU lo k).map am:=by
 intro k
 induction k with
 |zero=>intro lo;rfl
 |succ k ih=>
  intro lo
  rw[ae.range'_succ,eQ,<- ih (lo+1)]
  rfl
end
theorem Hi{f:α->β}{g:β->α}(hg: ∀x,g (f x)=x){l:ae α}{out:ae β}(h:out.Perm (l.map f)): ∃l':ae α,out=l'.map f/\l'.Perm l:=by
 refine⟨out.map g,?_,?_⟩
 .rw[cQ]
  have: ∀x∈out,x=(f∘g) x:=λx hx=>by
   obtain⟨y,_,rfl⟩:=aU.mp (h.mem_iff.mp hx)
   show f y=f (g (f y))
   rw[hg]
  exact(p_ out).symm.trans (pX this)
 .have:=h.map g
  rw[cQ] at this
  exact this.trans (by rw[show(g∘f)=id from funext hg,p_])
noncomputable def qE:AV->Nat
 | .int i=>i.toNat
 |_=>0
theorem r7(k:Nat):qE (am k)=k:=rfl
section
variable{n:Nat}{af:Env}{m:au}{X P:PM}{σ:ah}{s:Shared}{Q:AV->ah->Prop}
theorem Gg(l:ae Nat):kJ (l.map am):=⟨.Kt λa ha=>by obtain⟨k,_,rfl⟩:=aU.mp ha;exact⟨_,rfl⟩,
 λa ha=>by obtain⟨k,_,rfl⟩:=aU.mp ha;exact .int _ _,λa ha b hb=>by
  obtain⟨k,_,rfl⟩:=aU.mp ha
  obtain⟨j,_,rfl⟩:=aU.mp hb
  exact trivial⟩
end
section
variable{n:Nat}{af:Env}{m:au}{X P:PM}{σ:ah}{s:Shared}{Q:AV->ah->Prop}
theorem bp{σ:ah}{a b:Addr}(h:σ a=some o)(h':σ b=none):a≠b:=λq=>by rw[q,h'] at h;cases h
theorem iX{a:Addr}{l:ae Addr}(h:a∉l)(k:l.Nodup):(a::l).Nodup:=fF.mpr ⟨h,k⟩
theorem dM{a b:Addr}{l:ae Addr}(h:a≠b)(k:a∉l):a∉b::l:=λq=>(aY.mp q).elim h k
theorem Ck:([]:ae Addr).Nodup:=fA
theorem i4{a:Addr}:a∉([]:ae Addr):=jf
theorem mm{a b:Addr}{l:ae Addr}{C:Prop}(h:a∈b::l)(k:a=b->C)(r:a∈l->C):C:=(aY.mp h).elim k r
theorem m0{a:Addr}{C:Prop}(h:a∈([]:ae Addr)):C:=nomatch h
theorem im{σ:ah}{c d:Addr}{C:Prop}(q:c=d)(h:σ d=some o)(e:σ c=none):C:=nos (e.symm.trans (q▸h))
theorem dw{a b:Addr}{l:ae Addr}(h:a∉b::l):a≠b/\a∉l:=⟨λq=>h (q▸ .head _),λq=>h (.tail _ q)⟩
theorem jV{a:Addr}{l:ae Addr}(h:(a::l).Nodup):a∉l/\l.Nodup:=fF.mp h
theorem kw{σ:ah}{a b:Addr}(h:aA σ a o b=none):b≠a/\σ b=none:=by
 unfold aA at h
 split at h
 .cases h
 .exact⟨‹_›,h⟩
end
section
variable{n:Nat}{af:Env}{m:au}{X P:PM}{σ:ah}{s:Shared}{Q:AV->ah->Prop}
theorem RO{A:bo}{l:Addr}{c:Nat}{k:aj}{t:el}{Q:Unit->Shared->Prop}(ho:s.heap.get? l=some (cw items c))
  (h0:0<=k) (lJ:k<2^63) (hn:k<items.size)
  (hQ:Q () {s with heap:=s.heap.update l (Obj.mapSeq (·.setIfInBounds k.toNat v))}):
  ai GM A (setItem (.ref l) (.int k t) v) Q E s:=by
 have hT:s.TypeIs (.ref l) "list":=⟨_,ho,rfl⟩
 unfold setItem
 refine cq ?_
 refine wb (Az hT (by decide) ?_)
 refine wb (iM (name:=Str.ofString "__setitem__") hT N8
  (dY N8 hT entry_list_setitem ?_ (args_list_setitem _ _ _)))
 show ai _ _ (cF.List.listSubscript? (.int k t)>>=_) _ _ s
 refine wb (wpAny_listSubscript_int (fitsIndex_of h0 lJ) ?_)
 clear lJ
 obtain⟨j,rfl⟩:=Nh h0
 have hj:j<items.size:=by lia
 have i_:items[j]? =some items[j]:=pV hj
 show ai _ _ ((seqItemAt l j>>=λr=>pure (r.map (j,·)))>>=_) _ _ s
 refine wb (wb (wpAny_seqItemAt ho rfl (aq ?_)))
 rw[i_]
 show ai _ _ (setSeqItemAt l j v>>=_) _ _ s
 refine wb (wpAny_setSeqItemAt ho rfl ?_)
 exact aq ⟨.none,rfl,aq hQ⟩
theorem RepL.set{p:bg}{P:PM}{b:AV}{v:Value}(hb:RepV p P b v): ∀{l:ae AV} {vs:ae Value} (j:Nat),RepL p P l vs->RepL p P (l.set j b) (vs.set j v)
 |_,_,j,.nil=> .nil
 |_,_,0,.cons _ hr=> .cons hb hr
 |_,_,j+1,.cons hv hr=> .cons hv (RepL.set hb j hr)
inductive V9(b:AV)(Q:ah->Prop)(a k:AV)(aO:ah):Prop
 |mk (d:Addr) (l:ae AV) (j:Nat) (e:a= .raw (.ref d)) (h:aO d=some (.list l)) (ek:k=am j) (hj:j<l.length) (z:l.length<=1000) (q:Q (aA aO d (.list (l.set j b))))
theorem PR{o i:Expr}{pos:Pos}{Q:au->ah->Prop}(hi: ∀a b c d:Value,(match i with | .Slice _ _ none _=>[a,b,c] |_=>[b,c,a]:ae Value)=[b,c,a])
  (h:aQ n af o m σ λa ap=>aQ n af i m ap (V9 b (Q m) a)):fw n af (.Subscript o i pos) b m σ Q:=by
 intro A X P s v hA T r
 rw[ND]
 refine h.o9 hA T λaR ap a u aH aJ aL bF aD=>?_
 refine aD.o9 hA aL λbA aO k key aV bm ba b_ aI=>?_
 obtain⟨d,l,j,rfl,hd,rfl,hj,hz,q⟩:=aI
 cases bF;cases b_
 obtain⟨d',items,c,e,ho,rl⟩:=(eT.ref hd).is ba.inv (.raw _)
 cases e
 have e1:items.size=l.length:=by rw[<- ck,<- rl.length]
 refine wb (fi (wb (cq ?_)))
 refine RO ho (gf _) (aj.lt_trans (b:=1001) (iP.mpr (Nat.lt_of_lt_of_le hj (Nat.le_succ_of_le hz))) (by decide)) (iP.mpr (e1▸hj)) (AI ?_)
 obtain⟨c2,tG⟩:=nB (·.setIfInBounds ((j:aj)).toNat v) ho
 refine⟨m,bA,_,aJ.trans bm,ba.update (t:=aV.toks) hd (λb hb=>Heap.get?_update_other _ _ (fm hb)) tG (.list ?_),q⟩
 rw[ay.toList_setIfInBounds,kp]
 exact RepL.set ((r.mono aJ).mono bm) j rl
end
section
variable{n:Nat}{af:Env}{m:au}{X P:PM}{σ:ah}{s:Shared}{Q:AV->ah->Prop}
def qq(F:ae Addr)(σ σ':ah):Prop:= ∀b o,σ b=some o->b∉F->σ' b=some o
theorem qq.none{F:ae Addr}(h:qq F σ σ'){b:Addr}(hb:σ' b=none)(hF:b∉F):σ b=none:=by
 cases q:σ b with
 |none=>rfl
 |some o=>rw[h b o q hF] at hb;cases hb
theorem ff.fresh{u:UA}(U:ff u par bn la mg σ){b:Addr}(hb:σ b=none):b∉u.du::u.ab::u.lo::u.me::la:=by
 intro h
 simp only[aY] at h
 rcases h with rfl |rfl |rfl |rfl |h
 .rw[U.at_] at hb;cases hb
 .rw[U.ab] at hb;cases hb
 .rw[U.lo] at hb;cases hb
 .rw[U.me] at hb;cases hb
 .obtain⟨i,hi,rfl⟩:=NJ h
  have hj:i<bn.length:=by rw[<- U.len];exact hi
  have:=U.each i _ _ (cL hi) (cL hj)
  rw[this] at hb;cases hb
end
theorem uY{l:ae α}(h:l.length=2): ∃a b,l=[a,b]:=by
 cases l with
 |nil=>exact sE h rfl
 |cons a l=>cases l with
  |nil=>exact sE h rfl
  |cons b l=>cases l with
   |nil=>exact⟨a,b,rfl⟩
   |cons c l=>exact sE h rfl
theorem PS{a b:Nat}(hs:ns.Pairwise (· <= ·))(hp:(ns.map AV.int).Perm [am a,am b]):ns=[((min a b:Nat):aj),((max a b:Nat):aj)]:=by
 obtain⟨x,y,e⟩:=uY ((ar ..).symm.trans hp.length_eq)
 subst e
 .have YO:x<=y:=(NS.mp hs).1 y (.head _)
  have go: ∀{a b:Nat},[AV.int x,AV.int y].Perm [am a,am b]->x=a->y=b/\a<=b:=λ{a b} hp e=>by
   subst e
   have h:=aW.mp ((GB.cons_inv hp).mem_iff.mp (.head _))
   cases h
   exact⟨rfl,lW.mp YO⟩
  rcases aY.mp (hp.mem_iff.mp (.head _)) with e |e
  .obtain⟨e1,le⟩:=go hp (AV.int.inj e)
   rewrite [AV.int.inj e,e1,Nat.min_eq_left le,Nat.max_eq_right le];rfl
  .have e:=AV.int.inj (aW.mp e)
   obtain⟨e1,le⟩:=go (hp.trans (.swap _ _ _)) e
   rewrite [e,e1,Nat.min_eq_right le,Nat.max_eq_left le];rfl
section
variable{n:Nat}{af:Env}{m:au}{X P:PM}{σ:ah}{s:Shared}{Q:AV->ah->Prop}
end
section
variable{n:Nat}{af:Env}{m:au}{X P:PM}{σ:ah}{s:Shared}{Q:AV->ah->Prop}
theorem IZ{e1 e2:Expr}{pos:Pos}(h:aQ n af e1 m σ (vj λd ap=>if d=true then aQ n af e2 m ap Q else Q (.raw (.bool false)) ap)):aQ n af (.BoolOp .And [e1,e2] pos) m σ Q:=by
 intro A X P s hA T
 refine BoolOp_and (aC.with (h A X P s hA T) λv aH aR ap a aJ aL bF pq=>?_)
 obtain⟨d,e,q⟩:=pq
 subst e;cases bF
 refine rR ?_
 cases d with
 |true=>
  rw[if_pos rfl] at q ⊢
  exact BoolOp_one (aC.lift aJ (q A X aR aH hA aL))
 |false=>
  rw[aK Bool.false_ne_true] at q ⊢
  exact aC.up aJ (aC.now aL (.raw _) q)
end
section
noncomputable def Cl(K:Frag)(C:Addr)(name:Str):Bool:=Bm K C name&&A6 K C&&zm (sA K (.ref C) name)
theorem Cy.eV(h:Cl KF C name=true):Cy C name none:=
 have h:=Bool.and_eq_true_iff.mp h
 have h1:=Bool.and_eq_true_iff.mp h.1
 ⟨h1.1,h1.2,Cx h.2,rfl⟩
noncomputable def JT(K:Frag)(C:Addr)(name:Str):Bool:=((sA K (.ref C) "__setattr__").any λo=>o.any λv=>Dz v (.builtin "object.__setattr__"))&&Gw K C&&zm (takerIn K C name)&&A6 K C
theorem y2.eV(h:JT KF C name=true):y2 C name:=by
 have h:=Bool.and_eq_true_iff.mp h
 have h1:=Bool.and_eq_true_iff.mp h.1
 have h2:=Bool.and_eq_true_iff.mp h1.1
 obtain⟨o,e,q⟩:=BG h2.1
 obtain⟨v,e',q⟩:=BG q
 exact⟨e.trans (congrArg some (e'.trans (congrArg some (Jq q).1))),h2.2,Cx h1.2,h.2⟩
noncomputable def yU(K:Frag)(C:Addr)(name:Str)(f:Addr):Bool:=Bm K C name&&Dy (sA K (.ref C) name) f&&isFn K (.ref f)&&keepIn K (.ref f)
theorem u0.eV{f:Addr}(h:yU KF C name f=true):u0 C name f/\keepIn KF (.ref f)=true:=by
 have h:=Bool.and_eq_true_iff.mp h
 have h1:=Bool.and_eq_true_iff.mp h.1
 have h2:=Bool.and_eq_true_iff.mp h1.1
 exact⟨⟨h2.1,Jp h2.2,h1.2⟩,h.2⟩
section
variable{n:Nat}{af:Env}{m:au}{σ:ah}{Q:AV->ah->Prop}
noncomputable def yV:AV->Bool
 | .raw w=>xS w
 |_=>true
theorem x7(h:yV b=true): ∀w,b= .raw w->xS w=true:=λw e=>by subst e;exact h
theorem aS{v:Str}{p1 pos:Pos}{x:Addr}{l:ae (Str×AV)}(f_:σ dx=some (.attrs l))(h:Q b σ)(hl:true=qU af v:=by exact rfl)(hd:(v==("__debug__":Str))=false:=by kernel_rfl)
  (hv:m v=some (.obj x C dx):=by first |assumption |rfl) (pl:Cl KF C name=true:=by kernel_rfl) (hb:kN l name=some b:=by exact rfl) (hh:true=yV b:=by exact rfl):aQ n af (.Attribute (.Name v p1) name pos) m σ Q:=
 yl (λω=>rfl) (e_nm ⟨C,l,none,b,.obj f_,.eV pl,hb,x7 hh.symm,h⟩ hv hl hd)
abbrev YP(n:Nat)(f:Addr)(Q:AV->ah->Prop):ae AV->ah->Prop:=λl σ=>aT n (.ref f) l σ Q
abbrev Ee(n:Nat)(f:Addr)(a:AV)(Q:AV->ah->Prop):ae AV->ah->Prop:=λl σ=>aT n (.ref f) (a::l) σ Q
inductive LK(n:Nat)(af:Env)(name:Str)(f:Addr)(args:ae Expr)(m:au)(Q:AV->ah->Prop)(a:AV)(ap:ah):Prop
 |mk (x C dx:Addr) (l:ae (Str×AV)) (e:a= .obj x C dx) (h:ap dx=some (.attrs l)) (hm:yU KF C name f=true) (hg:kN l name=none) (k:iG n af args m ap (Ee n f a Q))
theorem bI{f:Addr}{x:Addr}{l:ae (Str×AV)}(h:σ dx=some (.attrs l))(k:iG n af args m σ (Ee n f (.obj x C dx) Q))(hm:yU KF C name f=true:=by kernel_rfl)(hg:none=kN l name:=by exact rfl):LK n af name f args m Q (.obj x C dx) σ:=⟨x,C,dx,l,rfl,h,hm,hg.symm,k⟩
theorem bG{o:Expr}{apos pos:Pos}(f:Addr)
  (h:aQ n af o m σ (LK n af name f args m Q))
  (he: ∀af,eval (.Call (.Attribute o name apos) args [] pos) af=(do
   let ov <- eval o af
   iU apos.atName
   let(f,first) <- holding [ov] (xN ov name (pl af))
   qh pos f first (jI pos (g_ args af)) []):=by exactλω=>rfl):aQ n af (.Call (.Attribute o name apos) args [] pos) m σ Q:=by
 refine dF he (h.mono λa ap pq=>?_)
 obtain⟨x,C,dx,l,e,f_,hm,hl,hL⟩:=pq
 subst e
 obtain⟨m1,m2⟩:=u0.eV hm
 exact⟨_,GE (.obj f_) m1 hl,Bq m2,hL.1,λA X P s pos hA T=>aC.with (hL.2 A X P s pos hA T) λvs s' P' σ' b hP T' r q=>⟨P',σ',b,hP,T',r,q.DC⟩⟩
noncomputable def Ef(name:Str)(f:Addr):Bool:=Dy (nsIn KF lX name) f&&keepIn KF (.ref f)&& !(name==("__debug__":Str))
theorem UL{f:Addr}(h:Ef name f=true):nsIn KF lX name=some (some (.ref f))/\keepIn KF (.ref f)=true/\(name==("__debug__":Str))=false:=by
 unfold Ef at h
 have h:=Bool.and_eq_true_iff.mp h
 have h1:=Bool.and_eq_true_iff.mp h.1
 exact⟨Jp h1.1,h1.2,(Bool.not_eq_true' _).mp h.2⟩
theorem bY{p1 pos:Pos}(f:Addr)(h:iG n af args m σ (YP n f Q))(c:Ef name f=true:=by kernel_rfl)(hl:true=gB af name:=by exact rfl):aQ n af (.Call (.Name name p1) args [] pos) m σ Q:=
 have c:=UL c
 IE (λω=>rfl) (uE (a:= .raw (.ref f)) (v:= .ref f) (.raw _) ⟨_,rfl,Bq c.2.1,h.1,λA X P s pos hA T=>aC.with (h.2 A X P s pos hA T) λvs s' P' σ' b hP T' r q=>⟨P',σ',b,hP,T',r,q.DC⟩⟩ c.1 hl c.2.2)
theorem bq{p1 pos:Pos}(f:Value)(h:iG n af args m σ (K8 n f Q))(c:zn name f=true:=by kernel_rfl)(hl:true=gB af name:=by exact rfl):aQ n af (.Call (.Name name p1) args [] pos) m σ Q:=
 IE (λω=>rfl) (ut (v:=f) ⟨_,rfl,(IB c).2.2.2.2.elim (λ⟨_,e⟩=>e▸dI) λ⟨_,e⟩=>e▸AT,h⟩ c hl)
end
theorem A1(x:Str): ∀(l:ae (Str×NameKind)) (k j:Nat) (a b:ae (Str×Addr)),(a.lookup x).isSome=(b.lookup x).isSome->((xO k l a).lookup x).isSome=((xO j l b).lookup x).isSome
 |[],k,j,a,b,h=>h
 |(y,kd)::r,k,j,a,b,h=>by
  unfold xO
  split
  .refine A1 x r _ _ _ _ ?_
   simp only[ae.lookup]
   split
   .rfl
   .exact h
  .exact A1 x r _ _ _ _ h
noncomputable def yz:ae Str->Bool
 |[]=>true
 |x::r=> !(r.contains x)&&yz r
theorem Be: ∀{l:ae Str},yz l=true->l.Nodup
 |[],_=>fA
 |x::r,h=>by
  have h:=Bool.and_eq_true_iff.mp h
  exact fF.mpr ⟨λq=>Bool.false_ne_true (((Bool.not_eq_true' _).mp h.1).symm.trans (Nw.mpr q)),Be h.2⟩
noncomputable def tc(K:Frag)(cd:Value)(qual:Str)(scope:Scope)(names:ae Str):Bool:=
 codeIn K cd qual&&yz names&&(names.all λx=>nk (scope.names.lookup x) true ((xO 0 scope.names []).lookup x).isSome)&&
  !scope.isCoroutine&& !scope.isGenerator&&zk scope.kind
section
variable{n:Nat}{σ:ah}{Q:AV->ah->Prop}
abbrev tJ(Q:AV->ah->Prop):AF->au->ah->Prop:=λfl ω σ=>Q (Cz fl) σ
theorem vY{f:Addr}{qual:Str}{cd pm oc:Value}{args:ae AV}
  (ho:KF.lookup f=some ⟨oc,od,.func (fE name qual params body scope cd pm),qT⟩) (hB:tc KF cd qual scope names=true)
  (hb: ∀vs:ae Value,vs.length=names.length->sg (fE name qual params body scope cd pm) ⟨vs,[]⟩=pure (names.zip vs)) (hlen:names.length=args.length)
  (h: ∀L,ch n (qg (fE name qual params body scope cd pm) L f) body (kL (names.zip args)) σ (tJ Q)):aT (n+3) (.ref f) args σ Q:=by
 have h:=Bool.and_eq_true_iff.mp hB
 have h1:=Bool.and_eq_true_iff.mp h.1
 have h2:=Bool.and_eq_true_iff.mp h1.1
 have h3:=Bool.and_eq_true_iff.mp h2.1
 have h4:=Bool.and_eq_true_iff.mp h3.1
 exact Vu ho h4.1 hb hlen (Be h4.2) (λk x hx=>yI (ox.mp h3.2 x hx).symm (λe ω=> .inl e) λe q=> .inr ⟨e,(A1 x _ k 0 [] [] rfl).trans q.symm⟩) ((Bool.not_eq_true' _).mp h2.2) ((Bool.not_eq_true' _).mp h1.2) (Cw h.2) ‹_›
theorem vZ(h:vs.length=1): ∃a,vs=[a]:=Fe.mp h
theorem mF(h:vs.length=k+1): ∃a r,vs=a::r/\r.length=k:=by
 cases vs with
 |nil=>cases h
 |cons a r=>exact⟨a,r,rfl,Nat.succ.inj h⟩
theorem fC{f:Addr}{qual:Str}{cd pm oc:Value}(x:Str)
  (h: ∀L,let e1:=qg (fE name qual params body scope cd pm) L f;let m:=kL [(x,a)];ch n e1 body m σ (tJ Q)) (ho:KF.lookup f=some ⟨oc,od,.func (fE name qual params body scope cd pm),qT⟩:=by with_unfolding_all rfl) (hB:tc KF cd qual scope [x]=true:=by kernel_rfl) (hb: ∀u,sg (fE name qual params body scope cd pm) ⟨[u],[]⟩=pure [(x,u)]:=by exactλω=>rfl):aT (n+3) (.ref f) [a] σ Q:=
 vY (names:=[x]) ho hB (λvs hv=>by
  obtain⟨u,rfl⟩:=vZ hv
  exact hb u) rfl h
theorem eL{f:Addr}{qual:Str}{cd pm oc:Value}(x y:Str)
  (h: ∀L,let e1:=qg (fE name qual params body scope cd pm) L f;let m:=kL [(x,a),(y,b)];ch n e1 body m σ (tJ Q)) (ho:KF.lookup f=some ⟨oc,od,.func (fE name qual params body scope cd pm),qT⟩:=by with_unfolding_all rfl) (hB:tc KF cd qual scope [x,y]=true:=by kernel_rfl) (hb: ∀u v,sg (fE name qual params body scope cd pm) ⟨[u,v],[]⟩=pure [(x,u),(y,v)]:=by exactλω ω=>rfl):aT (n+3) (.ref f) [a,b] σ Q:=
 vY (names:=[x,y]) ho hB (λvs hv=>by
  obtain⟨u,q0,rfl,h0⟩:=mF hv
  obtain⟨v,rfl⟩:=vZ h0
  exact hb u v) rfl h
theorem mG{f:Addr}{qual:Str}{cd pm oc:Value}{c:AV}(x y z:Str)
  (h: ∀L,let e1:=qg (fE name qual params body scope cd pm) L f;let m:=kL [(x,a),(y,b),(z,c)];ch n e1 body m σ (tJ Q)) (ho:KF.lookup f=some ⟨oc,od,.func (fE name qual params body scope cd pm),qT⟩:=by with_unfolding_all rfl) (hB:tc KF cd qual scope [x,y,z]=true:=by kernel_rfl) (hb: ∀u v w,sg (fE name qual params body scope cd pm) ⟨[u,v,w],[]⟩=pure [(x,u),(y,v),(z,w)]:=by exactλω ω ω=>rfl):aT (n+3) (.ref f) [a,b,c] σ Q:=
 vY (names:=[x,y,z]) ho hB (λvs hv=>by
  obtain⟨u,q0,rfl,h0⟩:=mF hv
  obtain⟨v,q1,rfl,h1⟩:=mF h0
  obtain⟨w,rfl⟩:=vZ h1
  exact hb u v w) rfl h
theorem y_{f:Addr}{qual:Str}{cd pm oc:Value}{c d:AV}(x y z t:Str)
  (h: ∀L,let e1:=qg (fE name qual params body scope cd pm) L f;let m:=kL [(x,a),(y,b),(z,c),(t,d)];ch n e1 body m σ (tJ Q)) (ho:KF.lookup f=some ⟨oc,od,.func (fE name qual params body scope cd pm),qT⟩) (hB:tc KF cd qual scope [x,y,z,t]=true) (hb: ∀u v w r,sg (fE name qual params body scope cd pm) ⟨[u,v,w,r],[]⟩=pure [(x,u),(y,v),(z,w),(t,r)]):aT (n+3) (.ref f) [a,b,c,d] σ Q:=
 vY (names:=[x,y,z,t]) ho hB (λvs hv=>by
  obtain⟨u,q0,rfl,h0⟩:=mF hv
  obtain⟨v,q1,rfl,h1⟩:=mF h0
  obtain⟨w,q2,rfl,h2⟩:=mF h1
  obtain⟨r,rfl⟩:=vZ h2
  exact hb u v w r) rfl h
theorem Xc{f:Addr}{qual:Str}{cd pm oc:Value}{c d e:AV}(x y z t q:Str)
  (h: ∀L,let e1:=qg (fE name qual params body scope cd pm) L f;let m:=kL [(x,a),(y,b),(z,c),(t,d),(q,e)];ch n e1 body m σ (tJ Q)) (ho:KF.lookup f=some ⟨oc,od,.func (fE name qual params body scope cd pm),qT⟩) (hB:tc KF cd qual scope [x,y,z,t,q]=true) (hb: ∀u v w r s,sg (fE name qual params body scope cd pm) ⟨[u,v,w,r,s],[]⟩=pure [(x,u),(y,v),(z,w),(t,r),(q,s)]):aT (n+3) (.ref f) [a,b,c,d,e] σ Q:=
 vY (names:=[x,y,z,t,q]) ho hB (λvs hv=>by
  obtain⟨u,q0,rfl,h0⟩:=mF hv
  obtain⟨v,q1,rfl,h1⟩:=mF h0
  obtain⟨w,q2,rfl,h2⟩:=mF h1
  obtain⟨r,q3,rfl,h3⟩:=mF h2
  obtain⟨s,rfl⟩:=vZ h3
  exact hb u v w r s) rfl h
end
section
variable{n:Nat}{af:Env}{m:au}{σ:ah}{Q:AF->au->ah->Prop}{r:ae Stmt}
noncomputable def KS(n:Nat)(af:Env)(r:ae Stmt)(Q:AF->au->ah->Prop):AF->au->ah->Prop
 | .next,m,σ=>ch n af r m σ Q
 |f,m,σ=>Q f m σ
theorem jW{st:Stmt}(h:jR n af st m σ (KS n af r Q)):ch n af (st::r) m σ Q:=by
 refine sC ?_
 intro A X P s hA T
 refine bT (h A X P s hA T) (λf aH ⟨m₁,aR,ap,a,aJ,aL,bF,aD⟩=>⟨m₁,aR,ap,a,aJ,aL,bF,?_⟩) λω ω e=>e
 cases a<;>exact aD
abbrev YQ(n:Nat)(af:Env)(r:ae Stmt)(Q:AF->au->ah->Prop):au->ah->Prop:=λm σ=>ch n af r m σ Q
abbrev YR(n:Nat)(af:Env)(t:Expr)(r:ae Stmt)(m:au)(Q:AF->au->ah->Prop):AV->ah->Prop:=λa σ=>fw n af t a m σ (YQ n af r Q)
abbrev YS(n:Nat)(af:Env)(r:ae Stmt)(m:au)(Q:AF->au->ah->Prop):AV->ah->Prop:=λa σ=>ym a/\ch n af r m σ Q
abbrev YT(m:au)(Q:AF->au->ah->Prop):AV->ah->Prop:=λa σ=>Q (.ret a) m σ
abbrev YU(n:Nat)(af:Env)(b o r:ae Stmt)(m:au)(Q:AF->au->ah->Prop):Bool->ah->Prop:=λc σ=>if c then ch n af b m σ (KS n af r Q) else ch n af o m σ (KS n af r Q)
abbrev YV(n:Nat)(af:Env)(b r:ae Stmt)(m:au)(Q:AF->au->ah->Prop):Bool->ah->Prop:=λc σ=>c=true/\ch n af b m σ (KS n af r Q)
abbrev YW(n:Nat)(af:Env)(r:ae Stmt)(m:au)(Q:AF->au->ah->Prop):Bool->ah->Prop:=λc σ=>c=false/\ch n af r m σ Q
theorem cg{t e:Expr}{pos:Pos}(h:aQ n af e m σ (YR n af t r m Q))(hs:pure false=xD [t] e pos.line af:=by exact rfl)(hw:pure none=xF [t] e af:=by exact rfl)(ht:lY [t] af=[(false,assign t af)]:=by exact rfl):ch n af (.Assign [t] e pos::r) m σ Q:=sC (QX hs.symm hw.symm ht h)
theorem fb{e:Expr}{pos:Pos}(h:aQ n af e m σ (YS n af r m Q))(hi:false=interactive af:=by exact rfl)(hs:pure false=uw e none pos.line af:=by exact rfl):ch n af (.Expr e pos::r) m σ Q:=sC (Un hi.symm hs.symm h)
theorem bC{e:Expr}{pos:Pos}(h:aQ n af e m σ (YT m Q)):ch n af (.Return (some e) pos::r) m σ Q:=sC (QW h)
theorem gv{t:Expr}{b o:ae Stmt}{pos:Pos}(h:fv n af t m σ (YU n af b o r m Q)):ch n af (.If t b o pos::r) m σ Q:=jW (Kf h)
theorem te{t:Expr}{b o:ae Stmt}{pos:Pos}(h:fv n af t m σ (YV n af b r m Q)):ch n af (.If t b o pos::r) m σ Q:=gv (h.mono λc ap h=>by rw[h.1];exact h.2)
theorem eM{t:Expr}{b:ae Stmt}{pos:Pos}(h:fv n af t m σ (YW n af r m Q)):ch n af (.If t b [] pos::r) m σ Q:=gv (h.mono λc ap h=>by rw[h.1];exact bE h.2)
noncomputable def KL(J:au->ah->Prop)(Q:AF->au->ah->Prop):AF->au->ah->Prop
 | .next,m,σ | .cont,m,σ=>J m σ
 | .brk,m,σ=>Q .next m σ
 | .ret v,m,σ=>Q (.ret v) m σ
inductive Xd(n:Nat)(af:Env)(t:Expr)(b r:ae Stmt)(m:au)(Q:AF->au->ah->Prop)(I:Nat->au->ah->Prop)(l:ae AV)(ap:ah):Prop
 |mk (h0:I 0 m ap) (hb: ∀i a m σ,l[i]? =some a->I i m σ->let Q':=KL (I (i+1)) (KS n af r Q);fw n af t a m σ λm₁ ap=>ch n af b m₁ ap Q') (he: ∀m σ,I l.length m σ->ch n af r m σ Q)
theorem oU{t it:Expr}{b:ae Stmt}{pos:Pos}(I:Nat->au->ah->Prop)(hs: ∀af x,g0 it af x=pure x)
  (h:iy n af t it m σ (Xd n af t b r m Q I)):
  ch n af (.For t it b [] pos::r) m σ Q:=by
 refine jW (IN hs λA X P s hA T=>bT (h A X P s hA T) (λx aH h=>bT h (λiv aV ⟨P',σ',l,Z,fp,z1,z2,z3,z4,z5,h0,hb,he⟩=>⟨P',σ',l,Z,fp,z1,z2,z3,z4,z5,I,h0,λi a m σ hi hI A X P s v hA T rv=>?_,λm σ hI=>bE (he m σ hI)⟩) λω ω e=>e) λω ω e=>e)
 refine bT (hb i a m σ hi hI A X P s v hA T rv) (λu s' ⟨m₁,aR,ap,hP,aL,q⟩=>⟨m₁,aR,ap,hP,aL,λA X P s hA T=>bT (q A X P s hA T) (λf nY ⟨m₂,bA,aO,c,bm,ba,b_,Dp⟩=>⟨m₂,bA,aO,c,bm,ba,b_,?_⟩) λω ω e=>e⟩) λω ω e=>e
 cases c<;>exact Dp
inductive Xe(n:Nat)(af:Env)(t:Expr)(b r:ae Stmt)(m:au)(Q:AF->au->ah->Prop)(l:ae AV)(ap:ah):Prop
 |mk (I:Nat->au->ah->Prop) (h0:I 0 m ap) (hb: ∀i a m σ,l[i]? =some a->I i m σ->let Q':=KL (I (i+1)) (KS n af r Q);fw n af t a m σ λm₁ ap=>ch n af b m₁ ap Q') (he: ∀m σ,I l.length m σ->ch n af r m σ Q)
theorem qr{t it:Expr}{b:ae Stmt}{pos:Pos}(hs: ∀af x,g0 it af x=pure x)
  (h:iy n af t it m σ (Xe n af t b r m Q)):
  ch n af (.For t it b [] pos::r) m σ Q:=by
 refine jW (IN hs λA X P s hA T=>bT (h A X P s hA T) (λx aH h=>bT h (λiv aV ⟨P',σ',l,Z,fp,z1,z2,z3,z4,z5,I,h0,hb,he⟩=>⟨P',σ',l,Z,fp,z1,z2,z3,z4,z5,I,h0,λi a m σ hi hI A X P s v hA T rv=>?_,λm σ hI=>bE (he m σ hI)⟩) λω ω e=>e) λω ω e=>e)
 refine bT (hb i a m σ hi hI A X P s v hA T rv) (λu s' ⟨m₁,aR,ap,hP,aL,q⟩=>⟨m₁,aR,ap,hP,aL,λA X P s hA T=>bT (q A X P s hA T) (λf nY ⟨m₂,bA,aO,c,bm,ba,b_,Dp⟩=>⟨m₂,bA,aO,c,bm,ba,b_,?_⟩) λω ω e=>e⟩) λω ω e=>e
 cases c<;>exact Dp
theorem uK{t:Expr}{b:ae Stmt}{pos:Pos}(I:Nat->au->ah->Prop)(k:Nat)(h0:I k m σ)
  (h: ∀k m σ,I k m σ->let Q':=KL (λm₂ aO=> ∃j,j<k/\I j m₂ aO) (KS n af r Q);fv n af t m σ λc ap=>if c then ch n af b m ap Q' else ch n af r m ap Q):
  ch n af (.While t b [] pos::r) m σ Q:=by
 refine jW (ST I k h0 λk m σ hI=>(h k m σ hI).mono λc ap h=>?_)
 cases c with
 |false=>exact bE h
 |true=>
  refine ch.mono h λf m₂ aO h=>?_
  cases f<;>exact h
end
theorem Xf{n:Nat}{af:Env}{b:ae Stmt}{m:au}{σ:ah}{Q:AF->au->ah->Prop}(h:let m':=m;ch n af b m' σ Q):ch n af b m σ Q:=h
theorem bS{c:Bool}{A B:Prop}(h:c=true)(a:A):if c=true then A else B:=by rw[if_pos h];exact a
theorem bL{c:Bool}{A B:Prop}(h:c=false)(b:B):if c=true then A else B:=by rw[h,aK Bool.false_ne_true];exact b
theorem JU{a b:Nat}(h:a≠b):((a:aj) != b)=true:=qb.mpr λe=>h (rX e)
theorem u8{a b:Nat}(h:a=b):((a:aj) != b)=false:=by rw[h];exact N7 _
theorem nM{a b:Nat}(h:a=b):((a:aj)==b)=true:=by rw[h];exact ni _
theorem nJ{a b:Nat}(h:a≠b):((a:aj)==b)=false:=pW.mpr λe=>h (rX e)
theorem JV{a b:Nat}(h:a<b):decide ((a:aj)<b)=true:=decide_eq_true (iP.mpr h)
theorem Cm{a b:Nat}(h:b<=a):decide ((a:aj)<b)=false:=cu (uq.mpr (lW.mpr h))
theorem t1{n:Nat}(h:n<1000):n<2^63:=Nat.lt_of_lt_of_le h (by decide)
theorem t2{n:Nat}(h:n<1000):n<=sizeLine:=Nat.le_of_lt (Nat.lt_of_lt_of_le h (by rw[eZ];decide))
theorem t3{n:Nat}(h:n<1000):n<sizeLine:=Nat.lt_of_lt_of_le h (by rw[eZ];decide)
variable{n:Nat}{af:Env}{m:au}{σ:ah}{Q:AV->ah->Prop}
theorem Hj{u:UA}(U:ff u par bn la mg σ)(hz:par.length<1000)(q:Q (am par.length) σ):aT 3 (.ref 289) [u.self] σ Q:=by
 refine fC (S "self") ?_
 intro Lo ev mv
 refine bC ?_
 refine bq (.builtin "len") ?_
 show ww
 refine aS U.at_ ?_
 show ww
 refine dL (.inr (.ref U.ab)) (by rw[ar];exact t1 hz) ?_
 rw[ar]
 exact q
end
inductive Lf where
 |d0 |d1 |d2 |d3 |d4 |vx
set_option genInjectivity false in
inductive PL where
 |f (i:Lf) |a |b |c
noncomputable def Lf.s:Lf->Str
 | .d0=>S "0" | .d1=>S "1" | .d2=>S "2" | .d3=>S "3" | .d4=>S "4" | .vx=>S "x"
noncomputable def PL.s:PL->Str
 | .f i=>i.s | .a=>S "?a" | .b=>S "?b" | .c=>S "?c"
set_option genInjectivity false in
inductive Sh(α:Type) where
 |lf (i:Lf) |ng (a:α) |ad (a b:α) |ml (a b:α)
inductive Tree(L:Type) where
 |lf (i:L) |ng (a:Tree L) |ad (a b:Tree L) |ml (a b:Tree L)
noncomputable abbrev aF:=Tree Lf
noncomputable abbrev bP:=Tree PL
noncomputable abbrev Nd:=Sh Nat
namespace Sh
variable{α β:Type}
noncomputable def op:Sh α->Str
 | .lf i=>i.s | .ng _=>S "neg" | .ad _ _=>S "add" | .ml _ _=>S "mul"
noncomputable def kids:Sh α->ae α
 | .lf _=>[] | .ng a=>[a] | .ad a b=>[a,b] | .ml a b=>[a,b]
noncomputable def map(f:α->β):Sh α->Sh β
 | .lf i=> .lf i | .ng a=> .ng (f a) | .ad a b=> .ad (f a) (f b) | .ml a b=> .ml (f a) (f b)
noncomputable def tm:Sh aF->aF
 | .lf i=> .lf i | .ng a=> .ng a | .ad a b=> .ad a b | .ml a b=> .ml a b
theorem uL(f:α->β)(s:Sh α):(s.map f).kids=s.kids.map f:=by cases s<;>rfl
theorem I0(f:α->β)(s:Sh α):(s.map f).op=s.op:=by cases s<;>rfl
theorem map_map{γ:Type}(f:α->β)(g:β->γ)(s:Sh α):(s.map f).map g=s.map λa=>g (f a):=by cases s<;>rfl
theorem PT{f g:α->β}(s:Sh α)(h: ∀a∈s.kids,f a=g a):s.map f=s.map g:=by
 cases s<;>simp[kids] at h<;>simp[map,h]
theorem ji(s:Sh α):s.kids.length<=2:=by cases s<;>simp[kids]
end Sh
namespace Tree
variable{L:Type}
noncomputable def av(ls:L->Str):Tree L->AV
 | .lf i=> .tup [.str (ls i)]
 | .ng a=> .tup [.str (S "neg"),a.av ls]
 | .ad a b=> .tup [.str (S "add"),a.av ls,b.av ls]
 | .ml a b=> .tup [.str (S "mul"),a.av ls,b.av ls]
noncomputable def op(ls:L->Str):Tree L->Str
 | .lf i=>ls i | .ng _=>S "neg" | .ad _ _=>S "add" | .ml _ _=>S "mul"
noncomputable def kids:Tree L->ae (Tree L)
 | .lf _=>[] | .ng a=>[a] | .ad a b=>[a,b] | .ml a b=>[a,b]
noncomputable def dep:Tree L->Nat
 | .lf _=>0 | .ng a=>a.dep+1 | .ad a b=>max a.dep b.dep+1 | .ml a b=>max a.dep b.dep+1
theorem i6(ls:L->Str)(t:Tree L):t.av ls= .tup (.str (t.op ls)::t.kids.map (av ls)):=by cases t<;>rfl
theorem nG{t k:Tree L}(h:k∈t.kids):k.dep<t.dep:=by
 cases t<;>simp[kids] at h
 .subst h;exact Nat.lt_succ_self _
 .rcases h with rfl |rfl
  .exact Nat.lt_succ_of_le (Nat.le_max_left _ _)
  .exact Nat.lt_succ_of_le (Nat.le_max_right _ _)
 .rcases h with rfl |rfl
  .exact Nat.lt_succ_of_le (Nat.le_max_left _ _)
  .exact Nat.lt_succ_of_le (Nat.le_max_right _ _)
theorem dat(ls:L->Str): ∀(t:Tree L) (k:Nat),t.dep<k->aM k (t.av ls)
 |t,0,h=>ax h (Nat.not_lt_zero _)
 |t,k+1,h=>by
  rw[i6]
  refine .tup λa ha=>?_
  rcases aY.mp ha with rfl |ha
  .exact .str _ _
  .obtain⟨b,hb,rfl⟩:=aU.mp ha
   exact dat ls b k (Nat.lt_of_lt_of_le (nG hb) (Nat.le_of_lt_succ h))
end Tree
noncomputable abbrev aF.av(t:aF):AV:=Tree.av Lf.s t
noncomputable def dG(s:Nd):AV:= .tup (.str s.op::s.kids.map am)
noncomputable def Sh.code:Str->ae Nat->aB Nd
 |x,[]=>if x=S "0" then some (.lf .d0) else if x=S "1" then some (.lf .d1) else if x=S "2" then some (.lf .d2) else if x=S "3" then some (.lf .d3) else if x=S "4" then some (.lf .d4) else some (.lf .vx)
 |_,[a]=>some (.ng a)
 |x,a::b::_=>if x=S "add" then some (.ad a b) else some (.ml a b)
theorem Sh.H'(s:Nd):Sh.code s.op s.kids=some s:=by
 cases s with
 |lf i=>cases i<;>rfl
 |ng a=>rfl
 |ad a b=>rfl
 |ml a b=>rfl
theorem UM{a b:Nd}(h1:a.op=b.op)(h2:a.kids=b.kids):a=b:=by
 have:=Sh.H' a
 rw[h1,h2,Sh.H' b] at this
 exact(aB.some.inj this).symm
theorem GV(l:ae Nat):(l.map am).map qE=l:=by
 rw[cQ,show(qE∘am)=id from funext r7,p_]
theorem RP{l l':ae Nat}(h:l.map am=l'.map am):l=l':=by
 have:=congrArg (r9 qE) h
 rwa [GV,GV] at this
theorem Cn{a b:Nd}(h:dG a=dG b):a=b:=by
 unfold dG at h
 injection h with h
 have h1:=(eC h).1
 injection h1 with h1
 exact UM h1 (RP (eC h).2)
theorem I4(s:Nd):aM 1 (dG s):= .tup λa ha=>by
 rcases aY.mp ha with rfl |ha
 .exact .str _ _
 .obtain⟨k,_,rfl⟩:=aU.mp ha;exact .int _ _
section
variable{κ β:Type}
noncomputable def aX(k:κ):ae (κ×β)->aB β
 |[]=>none
 |(x,v)::r=>if x=k then some v else aX k r
noncomputable def bH(k:κ)(v:β):ae (κ×β)->ae (κ×β)
 |[]=>[(k,v)]
 |(x,u)::r=>if x=k then(x,v)::r else(x,u)::bH k v r
noncomputable def gU(k:κ):ae (κ×β)->ae (κ×β)
 |[]=>[]
 |(x,u)::r=>if x=k then r else(x,u)::gU k r
theorem dS(k:κ)(p:κ×β)(r:ae (κ×β)):aX k (p::r)=if p.1=k then some p.2 else aX k r:=rfl
theorem li(k:κ)(v:β)(p:κ×β)(r:ae (κ×β)):bH k v (p::r)=if p.1=k then(p.1,v)::r else p::bH k v r:=rfl
theorem uC(k:κ)(p:κ×β)(r:ae (κ×β)):gU k (p::r)=if p.1=k then r else p::gU k r:=rfl
theorem QA(k x u:AV)(r:ae (AV×AV)):f6 ((x,u)::r) k=if x=k then some u else f6 r k:=rfl
theorem QB(k x u v:AV)(r:ae (AV×AV)):iB ((x,u)::r) k v=if x=k then(x,v)::r else(x,u)::iB r k v:=rfl
theorem QC(k x u:AV)(r:ae (AV×AV)):pj ((x,u)::r) k=if x=k then r else(x,u)::pj r k:=rfl
noncomputable def aZ(K:κ->AV)(f:β->AV)(l:ae (κ×β)):ae (AV×AV):=l.map λp=>(K p.1,f p.2)
theorem A2(K:κ->AV)(f:β->AV)(p:κ×β)(r:ae (κ×β)):aZ K f (p::r)=(K p.1,f p.2)::aZ K f r:=rfl
theorem sw{K:κ->AV}(hK: ∀a b,K a=K b->a=b)(f:β->AV)(k:κ)(l:ae (κ×β)):f6 (aZ K f l) (K k)=(aX k l).map f:=by
 induction l with
 |nil=>rfl
 |cons p r ih=>
  rw[A2,QA,dS,ih]
  by_cases e:p.1=k
  .rw[if_pos e,if_pos (congrArg K e)];rfl
  .rw[aK e,aK λq=>e (hK _ _ q)]
theorem yg{K:κ->AV}(hK: ∀a b,K a=K b->a=b)(f:β->AV)(k:κ)(v:β)(l:ae (κ×β)):iB (aZ K f l) (K k) (f v)=aZ K f (bH k v l):=by
 induction l with
 |nil=>rfl
 |cons p r ih=>
  rw[A2,QB,li,ih]
  by_cases e:p.1=k
  .rw[if_pos e,if_pos (congrArg K e)];rfl
  .rw[aK e,aK λq=>e (hK _ _ q)];rfl
theorem TA{K:κ->AV}(hK: ∀a b,K a=K b->a=b)(f:β->AV)(k:κ)(l:ae (κ×β)):pj (aZ K f l) (K k)=aZ K f (gU k l):=by
 induction l with
 |nil=>rfl
 |cons p r ih=>
  rw[A2,QC,uC,ih]
  by_cases e:p.1=k
  .rw[if_pos e,if_pos (congrArg K e)]
  .rw[aK e,aK λq=>e (hK _ _ q)];rfl
theorem kD(K:κ->AV)(f:β->AV)(l:ae (κ×β)):(aZ K f l).length=l.length:=ar _
theorem eG{k:κ}{v:β}{l:ae (κ×β)}(h:aX k l=some v):(k,v)∈l:=by
 induction l with
 |nil=>cases h
 |cons p r ih=>
  rw[dS] at h
  by_cases e:p.1=k
  .rw[if_pos e] at h;cases h;subst e;exact NN
  .rw[aK e] at h;exact Fp _ (ih h)
theorem lm{k:κ}{l:ae (κ×β)}:aX k l=none↔k∉l.map (·.1):=by
 induction l with
 |nil=>exact⟨λω h=>(nomatch h),λω=>rfl⟩
 |cons p r ih=>
  rw[dS,eQ,aY]
  by_cases e:p.1=k
  .rw[if_pos e];exact⟨λh=>(nomatch h),λh=>ax (.inl e.symm) h⟩
  .rw[aK e,ih];exact⟨λh q=>q.elim (λq=>e q.symm) h,λh q=>h (.inr q)⟩
theorem Po{k:κ}{v:β}{l:ae (κ×β)}(hn:(l.map (·.1)).Nodup)(h:(k,v)∈l):aX k l=some v:=by
 induction l with
 |nil=>cases h
 |cons p r ih=>
  rw[eQ,fF] at hn
  rw[dS]
  rcases aY.mp h with e |h
  .subst e;rw[if_pos rfl]
  .have ne: ¬p.1=k:=λq=>hn.1 (by rw[q];exact aU.mpr ⟨_,h,rfl⟩)
   rw[aK ne];exact ih hn.2 h
theorem kA{k:κ}{v:β}{l:ae (κ×β)}(h:aX k l=none):bH k v l=l++[(k,v)]:=by
 induction l with
 |nil=>rfl
 |cons p r ih=>
  rw[dS] at h
  rw[li]
  by_cases e:p.1=k
  .rw[if_pos e] at h;cases h
  .rw[aK e] at h;rw[aK e,ih h];rfl
theorem r8{k:κ}{v:β}{l:ae (κ×β)}(h:k∈l.map (·.1)):(bH k v l).map (·.1)=l.map (·.1):=by
 induction l with
 |nil=>cases h
 |cons p r ih=>
  rw[li]
  by_cases e:p.1=k
  .rw[if_pos e];rfl
  .rw[eQ,aY] at h
   rw[aK e,eQ,eQ,ih (h.resolve_left λq=>e q.symm)]
theorem iT{k:κ}{v:β}{p:κ×β}{l:ae (κ×β)}(h:p∈bH k v l):p=(k,v)\/p∈l:=by
 induction l with
 |nil=>exact .inl (aW.mp h)
 |cons y r ih=>
  rw[li] at h
  by_cases e:y.1=k
  .rw[if_pos e,e] at h
   exact(aY.mp h).imp id (Fp _)
  .rw[aK e] at h
   rcases aY.mp h with h |h
   .exact .inr (h▸NN)
   .exact(ih h).imp id (Fp _)
theorem uM(k:κ)(v:β)(l:ae (κ×β)):(bH k v l).length<=l.length+1:=by
 induction l with
 |nil=>exact Nat.le_refl _
 |cons p r ih=>
  rw[li]
  by_cases e:p.1=k
  .rw[if_pos e];exact Nat.le_succ _
  .rw[aK e];exact Nat.succ_le_succ ih
theorem l9(k j:κ)(v:β)(l:ae (κ×β)):aX j (bH k v l)=if j=k then some v else aX j l:=by
 induction l with
 |nil=>
  show(if k=j then some v else none)=if j=k then some v else none
  by_cases e:k=j
  .rw[if_pos e,if_pos e.symm]
  .rw[aK e,aK λq=>e q.symm]
 |cons p r ih=>
  rw[li,dS j p]
  by_cases e:p.1=k
  .rw[if_pos e,dS]
   by_cases e':p.1=j
   .rw[if_pos e',if_pos (e'▸e)]
   .rw[aK e',aK e',aK λq=>e' (e.trans q.symm)]
  .rw[aK e,dS]
   by_cases e':p.1=j
   .rw[if_pos e',if_pos e',aK λq=>e (e'.trans q)]
   .rw[aK e',aK e',ih]
theorem kE{k:κ}{v:β}{l:ae (κ×β)}(h:(l.map (·.1)).Nodup):((bH k v l).map (·.1)).Nodup:=by
 by_cases e:k∈l.map (·.1)
 .rw[r8 e];exact h
 .rw[kA (lm.mpr e),bX]
  refine ot.mpr ⟨h,by simp,λa ha b hb q=>?_⟩
  have:b=k:=by simpa using hb
  subst q this;exact e ha
end
structure iE{κ:Type}(K:κ->AV):Prop where
 inj: ∀a b,K a=K b->a=b
 dat: ∀k,aM 4 (K k)
 tag: ∀k j,dp (K k)=dp (K j)
theorem xP(a b:Nat)(h:am a=am b):a=b:=by have:=congrArg qE h;rwa [r7,r7] at this
theorem fq:iE am:=⟨xP,λω=> .int _ _,λω ω=>rfl⟩
theorem v0:iE dG:=⟨λω ω=>Cn,λk=>(I4 k).up (by decide),λω ω=>rfl⟩
theorem ef:iE AV.str:=⟨λa b h=>by injection h,λω=> .str _ _,λω ω=>rfl⟩
section
variable{κ β:Type}{K:κ->AV}{f:β->AV}{l:ae (κ×β)}{n:Nat}{af:Env}{m:au}{σ:ah}{Q:AV->ah->Prop}
theorem ma(hK:iE K)(hn:(l.map (·.1)).Nodup)(k:κ):ja (aZ K f l) (K k):=by
 refine⟨hK.dat k,λe he=>?_,λe he=>?_,?_⟩
 .obtain⟨p,_,rfl⟩:=aU.mp he;exact hK.dat _
 .obtain⟨p,_,rfl⟩:=aU.mp he;exact hK.tag _ _
 .have:(aZ K f l).map (·.1)=(l.map (·.1)).map K:=by
   unfold aZ;rw[cQ,cQ];rfl
  rw[this]
  exact Fx K (λa b fS q=>fS (hK.inj _ _ q)) hn
theorem Hk(hK:iE K){x:AV}{k:κ}(hx:x=K k)(L:fH σ a (aZ K f l))(hn:(l.map (·.1)).Nodup)(h:Q (.raw (.bool (aX k l).isSome)) σ):cD n σ (eU .In x a) Q:=by
 subst hx
 refine Qa L (ma hK hn k) ?_
 rw[sw hK.inj,N4];exact h
theorem ui(hK:iE K){x:AV}{k:κ}(hx:x=K k)(L:fH σ a (aZ K f l))(hn:(l.map (·.1)).Nodup)(h:Q (.raw (.bool (!(aX k l).isSome))) σ):cD n σ (eU .NotIn x a) Q:=by
 subst hx
 refine O7 L (ma hK hn k) ?_
 rw[sw hK.inj,N4];exact h
theorem ge(hK:iE K){x:AV}{k:κ}{v:β}(hx:x=K k)(L:fH σ a (aZ K f l))(hs: ∀o i,subscripted slice false o i=operate [o,i] (jk o i))(hn:(l.map (·.1)).Nodup)(hv:aX k l=some v)(h:Q (f v) σ):cD n σ (mD value slice a x) Q:=by
 subst hx
 exact Pf L hs (ma hK hn k) ((sw hK.inj f k l).trans (by rw[hv];rfl)) h
theorem on(hK:iE K){x:AV}{k:κ}(hx:x=K k)(L:fH σ a (aZ K f l))(hn:(l.map (·.1)).Nodup)(h:Q (((aX k l).map f).getD b) σ):cK n (.builtin "dict.get") [a,x,b] σ Q:=by
 subst hx
 refine VM L (ma hK hn k) ?_
 rw[sw hK.inj];exact h
inductive V_{κ β:Type}(K:κ->AV)(f:β->AV)(b:AV)(Q:ah->Prop)(a x:AV)(aO:ah):Prop
 |mk (d:Addr) (l:ae (κ×β)) (k:κ) (v:β) (e1:a= .raw (.ref d)) (e2:x=K k) (e3:b=f v) (hd:aO d=some (.dict (aZ K f l))) (hn:(l.map (·.1)).Nodup) (hz:l.length<1000) (q:Q (aA aO d (.dict (aZ K f (bH k v l)))))
theorem o5(hK:iE K){o i:Expr}{pos:Pos}{Q:au->ah->Prop}(hi: ∀a b c d:Value,(match i with | .Slice _ _ none _=>[a,b,c] |_=>[b,c,a]:ae Value)=[b,c,a])
  (h:aQ n af o m σ λa ap=>aQ n af i m ap (V_ K f b (Q m) a)):fw n af (.Subscript o i pos) b m σ Q:=by
 refine Gm hi (h.mono λa ap h=>h.mono λx aO h=>?_)
 obtain⟨d,l,k,v,e1,e2,e3,hd,hn,hz,q⟩:=h
 subst e2 e3
 refine⟨d,_,e1,hd,ma hK hn k,by rw[kD];exact t2 hz,?_⟩
 rw[yg hK.inj];exact q
theorem Fr(hK:iE K){d:Addr}{x:AV}{k:κ}{v:β}(hx:x=K k)(hb:b=f v)(hd:σ d=some (.dict (aZ K f l)))(hn:(l.map (·.1)).Nodup)(hz:l.length<=sizeLine)
  (h1: ∀u,aX k l=some u->Q (f u) σ) (h2:aX k l=none->Q (f v) (aA σ d (.dict (aZ K f (bH k v l))))):cK n (.builtin "dict.setdefault") [.raw (.ref d),x,b] σ Q:=by
 subst hx hb
 have e:=sw hK.inj f k l
 refine O8 hd (ma hK hn k) (by rw[kD];exact hz) (λb' n_=>?_) (λn_=>?_)
 .rw[e] at n_
  obtain⟨u,hu,rfl⟩:=dA.mp n_
  exact h1 u hu
 .rw[e] at n_
  rw[yg hK.inj]
  exact h2 (Np.mp n_)
theorem PU{f:β->AV}{l:ae (Nat×β)}{d:Addr}{x:AV}{v:β}(hx:x=am k)(hd:σ d=some (.dict (aZ am f l)))(hn:(l.map (·.1)).Nodup)(hz:l.length<1000)(hv:aX k l=some v)
  (h:Q (f v) (aA σ d (.dict (aZ am f (gU k l))))):cK n (.builtin "dict.pop") [.raw (.ref d),x] σ Q:=by
 subst hx
 refine Uz hd (ma fq hn k) rfl (by rw[kD];exact t2 hz) ((sw xP f k l).trans (by rw[hv];rfl)) ?_
 rw[TA xP];exact h
theorem qF{β:Type}{f:β->AV}{l:ae β}{d:Addr}{v:β}(hd:σ d=some (.list (l.map f)))(ha:a=f v)(hz:l.length<sizeLine)(h:Q (.raw .none) (aA σ d (.list ((l++[v]).map f)))):cK n (.builtin "list.append") [.raw (.ref d),a] σ Q:=by
 subst ha
 refine uH hd (by rw[ar];exact hz) ?_
 rw[bX] at h;exact h
theorem jK{β:Type}{f:β->AV}{l:ae β}{x:β}(L:eT σ b (l.map f))(hs: ∀o i,subscripted slice false o i=operate [o,i] (jk o i))(hz:l.length<1000)(hx:l[k]? =some x)(h:Q (f x) σ):cD n σ (mD value slice b (am k)) Q:=
 g9 L hs (gf _) (by rw[ar];exact t1 hz) (by rw[kp,cP,hx];rfl) h
end
theorem fJ:ym (.raw .none):=λa h=>by cases h
variable{τ:PL->aF}
set_option genInjectivity false in
structure BA where
 x:Addr
 d:Addr
 no:Addr
 nu:Addr
 we:Addr
 de:Addr
noncomputable def BA.self(b:BA):AV:= .obj b.x 203 b.d
noncomputable def BA.at_(b:BA):AO:= .attrs [(S "nodes",.raw (.ref b.no)),(S "numbers",.raw (.ref b.nu)),(S "weights",.raw (.ref b.we)),(S "depths",.raw (.ref b.de))]
noncomputable def lA(nodes:ae Nd):ae (Nd×Nat):=nodes.zipIdx
def v6(n:Nat)(a:Addr)(σ:ah):Prop:= ∃ws:ae aj,σ a=some (.list (ws.map .int))/\ws.length=n
structure ga(b:BA)(nodes:ae Nd)(σ:ah):Prop where
 at_:σ b.d=some b.at_
 no:σ b.no=some (.list (nodes.map dG))
 nu:σ b.nu=some (.dict (aZ dG am (lA nodes)))
 we:v6 nodes.length b.we σ
 de:v6 nodes.length b.de σ
theorem sG(nd:Nd):(AV.str nd.op::nd.kids.map am).length<1000:=by
 rw[gh,ar];exact Nat.lt_of_le_of_lt (Nat.succ_le_succ nd.ji) (by decide)
noncomputable def BA.fp(b:BA):ae Addr:=[b.d,b.no,b.nu,b.we,b.de]
section
variable{n:Nat}{af:Env}{m:au}{X P:PM}{σ σ':ah}{Q:AV->ah->Prop}{b:BA}{nodes:ae Nd}
theorem ga.keep(B:ga b nodes σ)(k: ∀a∈b.fp,∀o,σ a=some o->σ' a=some o):ga b nodes σ':=by
 obtain⟨ws,h1,h2⟩:=B.we
 obtain⟨ds,h3,h4⟩:=B.de
 exact⟨k _ (.head _) _ B.at_,k _ (.tail _ (.head _)) _ B.no,k _ (.tail _ (.tail _ (.head _))) _ B.nu,⟨ws,k _ (.tail _ (.tail _ (.tail _ (.head _)))) _ h1,h2⟩,⟨ds,k _ (.tail _ (.tail _ (.tail _ (.tail _ (.head _))))) _ h3,h4⟩⟩
theorem TB(B:ga b nodes σ)(hz:nodes.length<1000)(q:Q (am nodes.length) σ):aT 3 (.ref 122) [b.self] σ Q:=by
 refine fC (S "self") ?_
 intro Lo ev mv
 refine bC ?_
 refine bq (.builtin "len") ?_
 show ww
 refine aS B.at_ ?_
 show ww
 refine dL (.inr (.ref B.no)) (by rw[ar];exact t1 hz) ?_
 rw[ar]
 exact q
theorem Ia(B:ga b nodes σ)(hz:nodes.length<1000){nd:Nd}(hk:nodes[k]? =some nd)(hs: ∀o i,subscripted slice false o i=operate [o,i] (jk o i))(q:Q (dG nd) σ):cD n σ (mD value slice (.raw (.ref b.no)) (am k)) Q:=
 jK (.ref B.no) hs hz hk q
theorem JW(B:ga b nodes σ)(hz:nodes.length<1000){nd:Nd}(hk:nodes[k]? =some nd)(q:Q (.str nd.op) σ):aT 3 (.ref 160) [b.self,am k] σ Q:=by
 refine eL (S "self") (S "n") ?_
 intro Lo ev mv
 refine bC ((bh (bh ?_)))
 refine aS B.at_ ?_
 show ww
 refine Ia B hz hk (λω ω=>rfl) ?_
 show ww
 exact dC (λω ω=>rfl) (c_ _) (t1 (sG nd)) rfl q
theorem BS(B:ga b nodes σ)(hz:nodes.length<1000){nd:Nd}(hk:nodes[k]? =some nd)(q:Q (.tup (nd.kids.map am)) σ):aT 3 (.ref 167) [b.self,am k] σ Q:=by
 refine eL (S "self") (S "n") ?_
 intro Lo ev mv
 refine bC ((hG (lo:=some 1) (hi:=none) (.int 1 _ _) .none (bh ?_)))
 refine aS B.at_ ?_
 show ww
 refine Ia B hz hk (λω ω=>rfl) ?_
 exact jD (Nat.succ_le_succ (Nat.zero_le _)) (t2 (sG nd)) q
end
noncomputable def I5(x:Str):Bool:=decide (x≠S "")&&decide (x.length<1000)&&x.cps.all (· <128)&&x.cps.toList.all (λc=> !F9 ⟨#[c]⟩&& !xG (S "()[]{},:") ⟨#[c]⟩)&&(match x.cps[0]? with |some c=>decide ((⟨#[c]⟩:Str)≠S "?") |none=>false)
structure vC(x:Str):Prop where
 ne:x≠S ""
 len:x.length<1000
 asc:x.cps.all (· <128)=true
 ok: ∀c∈x.cps.toList,F9 ⟨#[c]⟩=false/\xG (S "()[]{},:") ⟨#[c]⟩=false
 first: ∃c,x.cps[0]? =some c/\(⟨#[c]⟩:Str)≠S "?"
theorem vC.eV(h:I5 x=true):vC x:=by
 unfold I5 at h
 simp only[Bool.and_eq_true,N3,ox,Bool.not_eq_true'] at h
 refine⟨h.1.1.1.1,h.1.1.1.2,h.1.1.2,h.1.2,?_⟩
 have:=h.2
 cases q:x.cps[0]? with
 |none=>rw[q] at this;cases this
 |some c=>rw[q] at this;exact⟨c,rfl,k9 this⟩
theorem RQ(s:Sh α):vC s.op:=by
 refine .eV ?_
 cases s with
 |lf i=>cases i<;>kernel_rfl
 |ng a=>kernel_rfl
 |ad a b=>kernel_rfl
 |ml a b=>kernel_rfl
theorem Bf: ∀{l:ae Nat} {a:AV},a∈mw l-> ∃c∈l,a= .str ⟨#[c]⟩
 |c::r,a,h=>by
  rcases aY.mp (show a∈AV.str ⟨#[c]⟩::mw r from h) with h |h
  .exact⟨c,.head _,h⟩
  .obtain⟨d,hd,e⟩:=Bf h;exact⟨d,.tail _ hd,e⟩
section
variable{n:Nat}{af:Env}{m:au}{X P:PM}{σ σ':ah}{Q:AV->ah->Prop}{b:BA}{nodes:ae Nd}
theorem UN(hx:vC x)(q:Q (.raw (.bool true)) σ):aT 3 (.ref 79) [.str x] σ Q:=by
 refine fC (S "text") ?_
 intro Lo ev mv
 refine bC ((IZ (vi rfl ?_)))
 show ww
 refine QZ ⟨true,by rw[cu hx.ne];rfl,?_⟩
 rw[if_pos rfl]
 refine vi rfl (fG [] (w_of ?_))
 show ww
 refine⟨_,IT hx.asc,λi acc σ'=>σ'=σ/\acc=[],⟨rfl,rfl⟩,?_,?_⟩
 .intro C i a acc σ' hi hI ce cm Jv
  obtain⟨c,hc,rfl⟩:=Bf (cO hi)
  obtain⟨c1,c2⟩:=hx.ok c hc
  refine aN (nD (iZ (h9 (mh (λω=>rfl) (dF (λω=>rfl) ?_)))))
  show ww
  refine⟨_,P_,dI,?_⟩
  show ww
  refine Qy ⟨_,rfl,?_⟩
  refine bL c1 (h9 (bu rfl ?_))
  show ww
  refine RK ⟨_,rfl,?_⟩
  exact bL c2 (jJ hI)
 .intro acc σ' hI
  obtain⟨h1,h2⟩:=hI
  subst h1 h2
  refine gm (l_nil ⟨Nat.zero_le _,G4 (λω h=>by cases h) (λω h=>by cases h) ?_⟩)
  rewrite [decide_eq_true rfl]
  exact q
theorem PV(hx:vC x)(q:Q (.raw .none) σ):aT 6 (.ref 134) [a,.str x] σ Q:=by
 refine eL (S "self") (S "op") ?_
 intro Lo ev mv
 refine sC (Kf (iZ (h9 (yJ (mh (λω=>rfl) ?_)))))
 refine bY 79 ?_
 show ww
 refine UN hx ⟨true,rfl,?_⟩
 refine bL rfl (h9 (bu rfl (bh ?_)))
 show ww
 obtain⟨c,h1,h2⟩:=hx.first
 refine PQ (c:=c) (λω ω=>rfl) (by decide) ?_ ?_
 .have:A7 0 x.length=some 0:=by
   have:x.length≠0:=λe=>by
    rw[Am (Nat.le_of_eq e)] at h1;cases h1
   unfold A7
   simp[this]
  rw[this];exact h1
 show ww
 refine fW ⟨_,rfl,?_⟩
 exact bL (cu h2) (jJ (bE (bE q)))
end
section
theorem Bg(nodes:ae Nd):(lA nodes).map (·.1)=nodes:=by unfold lA;rw[ae.zipIdx_map_fst]
theorem RS{nodes:ae Nd}{s:Nd}(h:aX s (lA nodes)=some k):nodes[k]? =some s:=by
 have:=eG h
 unfold lA at this
 have:=ae.mem_zipIdx this
 obtain⟨h1,h2,h3⟩:=this
 simp only[Nat.sub_zero] at h3
 rw[h3]
 exact cL _
theorem RU{nodes:ae Nd}{s:Nd}(h:s∉nodes):bH s nodes.length (lA nodes)=lA (nodes++[s]):=by
 rw[kA (lm.mpr (by rw[Bg];exact h))]
 unfold lA
 rw[ae.zipIdx_append,Nat.zero_add]
 rfl
theorem aP{σ:ah}{a b:Addr}{o':AO}(h:σ b=some o)(cj:b≠a):aA σ a o' b=some o:=(oQ σ o' cj).trans h
theorem TD(s:Nd):[AV.str s.op].length+(s.kids.map am).length<=sizeLine:=Nat.le_trans (Nat.le_of_eq (Nat.add_comm _ _)) (t2 (sG s))
theorem x8(k:Nat):((k+1:Nat):aj) - 1=k:=by rw[aj.natCast_succ];exact NR _ _
theorem RV{a:Addr}{l:ae Addr}(h:a∉l){b:Addr}(hb:b∈l):a≠b:=λe=>h (e▸hb)
section
variable{n:Nat}{af:Env}{m:au}{X P:PM}{σ σ':ah}{Q:AV->ah->Prop}{b:BA}{nodes:ae Nd}
theorem PW(ha:lD a l)(hz:l.length<1000)(q:Q (.tup l) σ):cK n (.type "tuple") [a] σ Q:=by
 cases ha with
 |tup l=>exact AP q
 |lst l=>exact oJ (.lst l) (t2 hz) q
theorem GW{c:Nat}{a:Addr}(h:v6 c a σ)(hz:c<1000)(hk:k<c)(hs: ∀o i,subscripted slice false o i=operate [o,i] (jk o i))(q: ∀i,Q (.int i) σ):cD n σ (mD value slice (.raw (.ref a)) (am k)) Q:=by
 obtain⟨ws,h1,h2⟩:=h
 refine g9 (.ref h1) hs (gf _) (by rw[ar,h2];exact t1 hz) (a:= .int (ws[k]'(h2.symm▸hk))) (by rw[kp,cP,cL (h2.symm▸hk)];rfl) (q _)
end
theorem RW{b:BA}(h:b.fp.Nodup):(b.d≠b.no/\b.d≠b.nu/\b.d≠b.we/\b.d≠b.de)/\(b.no≠b.nu/\b.no≠b.we/\b.no≠b.de)/\(b.nu≠b.we/\b.nu≠b.de)/\b.we≠b.de:=by
 have a:=jV h
 have c:=jV a.2
 have d:=jV c.2
 have a1:=dw a.1
 have a2:=dw a1.2
 have a3:=dw a2.2
 have c1:=dw c.1
 have c2:=dw c1.2
 have d1:=dw d.1
 exact⟨⟨a1.1,a2.1,a3.1,(dw a3.2).1⟩,⟨c1.1,c2.1,(dw c2.2).1⟩,⟨d1.1,(dw d1.2).1⟩,(dw (jV d.2).1).1⟩
variable{σ:ah}{Q:AV->ah->Prop}{b:BA}{nodes:ae Nd}
set_option maxHeartbeats 8000000 in
theorem TE(B:ga b nodes σ)(hz:nodes.length<900)(hn:nodes.Nodup)(bO:b.fp.Nodup){s:Nd}(ha:lD a (s.kids.map am))(hk: ∀k∈s.kids,k<nodes.length)
  (q1: ∀k,nodes[k]? =some s->Q (am k) σ) (q2:s∉nodes-> ∀σ',ga b (nodes++[s]) σ'->qq b.fp σ σ'->Q (am nodes.length) σ'):aT 9 (.ref 127) [b.self,.str s.op,a] σ Q:=by
 have fx:nodes.length<1000:=Nat.lt_trans hz (by decide)
 have gW:(s.kids.map am).length<1000:=by rw[ar];exact Nat.lt_of_le_of_lt s.ji (by decide)
 refine mG (S "self") (S "op") (S "kids") ?_
 intro Lo ev mv
 refine cg ((bR (e_tuple ?_)))
 show ww
 refine⟨t2 (n:=1) (by decide),?_⟩
 refine bq (.type "tuple") ?_
 show ww
 refine PW ha gW (uy (TD s) (aN ?_))
 intro mv
 refine gv (bu rfl ?_)
 show ww
 refine aS B.at_ ?_
 have KB:((lA nodes).map (·.1)).Nodup:=by rw[Bg];exact hn
 refine Hk v0 (k:=s) rfl (.ref B.nu) KB ⟨_,rfl,?_⟩
 cases hc:aX s (lA nodes) with
 |some k=>
  refine bC ((bh ?_))
  refine aS B.at_ ?_
  show ww
  refine ge v0 (k:=s) rfl (.ref B.nu) (λω ω=>rfl) KB hc ?_
  exact q1 k (RS hc)
 |none=>
 have hs:s∉nodes:=by have:=lm.mp hc;rwa [Bg] at this
 refine bE (fb ?_)
 refine bG 134 ?_
 show ww
 refine bI B.at_ ?_
 show ww
 refine PV (RQ s) ⟨fJ,?_⟩
 refine oU (λi m' σ'=>σ'=σ/\m' (S "self")=some b.self/\m' (S "node")=some (dG s)) (λω ω=>rfl) (w_seq (hG (lo:=some 1) (hi:=none) (.int 1 _ _) .none ?_))
 show ww
 refine jD (Nat.succ_le_succ (Nat.zero_le _)) (t2 (sG s)) ?_
 refine⟨_,.tup _,⟨rfl,rfl,rfl⟩,?_,?_⟩
 .intro i a m' σ' hi hI Qv
  obtain⟨e,LL,LM⟩:=hI
  subst e
  obtain⟨k,bJ,rfl⟩:=aU.mp (cO hi:a∈s.kids.map am)
  refine aN ?_
  intro mv
  refine eM (yJ (IC rfl ?_))
  show ww
  refine C8 ⟨true,by rw[decide_eq_true (gf k)],?_⟩
  rw[if_pos rfl]
  refine bq (.builtin "len") ?_
  show ww
  refine aS B.at_ ?_
  show ww
  refine dL (.inr (.ref B.no)) (by rw[ar];exact t1 fx) ?_
  rw[ar]
  exact pf ⟨true,by rw[decide_eq_true (iP.mpr (hk k bJ))],rfl,bE ⟨rfl,LL,LM⟩⟩
 intro m' σ' hI
 obtain⟨e,LL,LM⟩:=hI
 subst e
 obtain⟨⟨d1,d2,d3,d4⟩,⟨d5,d6,d7⟩,⟨d8,d9⟩,tK⟩:=RW bO
 refine cg ?_
 refine bq (.builtin "len") ?_
 show ww
 refine aS B.at_ ?_
 show ww
 refine dL (.inr (.ref B.no)) (by rw[ar];exact t1 fx) ?_
 rw[ar]
 refine o5 v0 (f:=am) (λω ω ω ω=>rfl) ?_
 refine aS B.at_ ?_
 show ww
 refine⟨_,_,s,nodes.length,rfl,rfl,rfl,B.nu,KB,by rw[lA,ae.length_zipIdx];exact fx,?_⟩
 rw[RU hs]
 refine gn (aA _ b.nu _) λaw e1=>?_
 have gX:aw b.d=_:=e1▸aP B.at_ d2
 have LN:aw b.no=_:=e1▸aP B.no d5
 refine fb ((dF (λω=>rfl) ?_))
 refine aS gX ?_
 refine⟨_,ln (.ref LN),dI,?_⟩
 show ww
 refine qF LN (v:=s) rfl (t3 fx) ⟨fJ,?_⟩
 refine gn (aA aw b.no _) λa_ e2=>?_
 have at2:a_ b.d=_:=e2▸aP gX d1
 have YX:v6 nodes.length b.we a_:=by
  obtain⟨ws,h1,h2⟩:=B.we
  exact⟨ws,e2▸aP (e1▸aP h1 d8.symm) d6.symm,h2⟩
 refine fb ((dF (λω=>rfl) ?_))
 refine aS at2 ?_
 obtain⟨ws,Eg,rt⟩:=YX
 refine⟨_,ln (.ref Eg),dI,?_⟩
 show ww
 refine bR ?_
 show ww
 refine bq (.builtin "sum") ?_
 show ww
 refine fG [(S "self",Lo+1)] (w_seq (hG (lo:=some 1) (hi:=none) (.int 1 _ _) .none ?_))
 show ww
 refine jD (Nat.succ_le_succ (Nat.zero_le _)) (t2 (sG s)) ?_
 refine⟨_,.tup _,λi acc σ'=>σ'=a_/\ ∃ns:ae aj,acc=ns.map .int/\ns.length<=i,⟨rfl,[],rfl,Nat.le_refl _⟩,?_,?_⟩
 .intro C i a acc σ' hi hI ce cm Jv
  obtain⟨e,ns,rfl,hl⟩:=hI
  subst e
  obtain⟨k,bJ,rfl⟩:=aU.mp (cO hi:a∈s.kids.map am)
  refine aN (iV (bS rfl ?_))
  refine bh ?_
  refine aS at2 ?_
  show ww
  refine GW ⟨ws,Eg,rt⟩ fx (hk k bJ) (λω ω=>rfl) λw=>⟨?_,rfl,ns++[w],by rw[bX];rfl,by rw[bQ];exact Nat.succ_le_succ hl⟩
  rw[ar]
  exact t3 (Nat.lt_of_le_of_lt (Nat.le_of_lt (Nat.lt_of_le_of_lt hl (cV.mp hi).1)) gW)
 intro acc σ' hI
 obtain⟨e,ns,rfl,hl⟩:=hI
 subst e
 show ww
 refine vB (t2 (Nat.lt_of_le_of_lt hl gW)) (gp ?_)
 show ww
 refine qF Eg (v:=1+jw ns) rfl (by rw[rt];exact t3 fx) ⟨fJ,?_⟩
 generalize YY:ws++[1+jw ns]=LO
 have Xg:LO.length=(nodes++[s]).length:=by rw[<- YY,bQ,bQ,rt];rfl
 refine gn (aA _ b.we _) λcn e3=>?_
 have rA:cn b.d=_:=e3▸aP at2 d3
 have YZ:v6 nodes.length b.de cn:=by
  obtain⟨ds,h1,h2⟩:=B.de
  exact⟨ds,e3▸aP (e2▸aP (e1▸aP h1 d9.symm) d7.symm) tK.symm,h2⟩
 refine fb ((dF (λω=>rfl) ?_))
 refine aS rA ?_
 obtain⟨ds,tL,rf⟩:=YZ
 refine⟨_,ln (.ref tL),dI,?_⟩
 show ww
 refine bR ?_
 show ww
 refine bq (.builtin "max") ?_
 show ww
 refine bR (fG [(S "self",Lo+1)] (w_seq (hG (lo:=some 1) (hi:=none) (.int 1 _ _) .none ?_)))
 show ww
 refine jD (Nat.succ_le_succ (Nat.zero_le _)) (t2 (sG s)) ?_
 refine⟨_,.tup _,λi acc σ'=>σ'=cn/\ ∃ns:ae aj,acc=ns.map .int/\ns.length<=i,⟨rfl,[],rfl,Nat.le_refl _⟩,?_,?_⟩
 .intro C i a acc σ' hi hI ce cm Jv
  obtain⟨e,ns,rfl,hl⟩:=hI
  subst e
  obtain⟨k,bJ,rfl⟩:=aU.mp (cO hi:a∈s.kids.map am)
  refine aN (iV (bS rfl ?_))
  refine bh ?_
  refine aS rA ?_
  show ww
  refine GW ⟨ds,tL,rf⟩ fx (hk k bJ) (λω ω=>rfl) λw=>⟨?_,rfl,ns++[w],by rw[bX];rfl,by rw[bQ];exact Nat.succ_le_succ hl⟩
  rw[ar]
  exact t3 (Nat.lt_of_le_of_lt (Nat.le_of_lt (Nat.lt_of_le_of_lt hl (cV.mp hi).1)) gW)
 intro acc σ' hI
 obtain⟨e,wI,rfl,tM⟩:=hI
 subst e
 refine gm ?_
 show ww
 refine⟨t2 (n:=1) (by decide),uA (.lst _) (.lst _) ?_ ?_⟩
 .rw[ar]
  exact Nat.le_trans (Nat.succ_le_of_lt (Nat.lt_of_le_of_lt tM gW)) (by rw[eZ];decide)
 show ww
 rw[show wI.map AV.int++[AV.int 0]=(wI++[0]).map AV.int from by rw[bX];rfl]
 refine V7 (by simp) λi=>gp ?_
 show ww
 refine qF tL (v:=1+i) rfl (by rw[rf];exact t3 fx) ⟨fJ,?_⟩
 generalize iH:ds++[1+i]=LQ
 have Xh:LQ.length=(nodes++[s]).length:=by rw[<- iH,bQ,bQ,rf];rfl
 refine gn (aA _ b.de _) λeO e4=>?_
 have tN:eO b.d=_:=e4▸aP rA d4
 have LR:eO b.no=some (.list ((nodes++[s]).map dG)):=e4▸aP (e3▸aP (e2▸bB _ _ _) d6) d7
 refine bC ((bR ?_))
 refine bq (.builtin "len") ?_
 show ww
 refine aS tN ?_
 show ww
 refine dL (.inr (.ref LR)) (by rw[ar,bQ];exact t1 (Nat.lt_of_le_of_lt (Nat.succ_le_of_lt hz) (by decide))) ?_
 show ww
 refine mq ?_
 rw[show(((nodes++[s]).map dG).length:aj) - 1=nodes.length from by rw[ar,bQ];exact x8 _]
 refine q2 hs _ ⟨tN,LR,?_,⟨LO,?_,Xg⟩,⟨LQ,e4▸bB _ _ _,Xh⟩⟩ ?_
 .exact e4▸aP (e3▸aP (e2▸aP (e1▸bB _ _ _) d5.symm) d8) d9
 .exact e4▸aP (e3▸bB _ _ _) tK
 .intro c o hc hF
  have F: ∀x∈b.fp,c≠x:=λx hx=>RV hF hx
  exact e4▸aP (e3▸aP (e2▸aP (e1▸aP hc (F _ (.tail _ (.tail _ (.head _))))) (F _ (.tail _ (.head _)))) (F _ (.tail _ (.tail _ (.tail _ (.head _)))))) (F _ (.tail _ (.tail _ (.tail _ (.tail _ (.head _))))))
end
section
structure Mk(dx:Addr)(o:AO)(σ σ':ah):Prop where
 at_:σ' dx=some o
 keep: ∀b o,σ b=some o->b≠dx->σ' b=some o
theorem Mk.old{b:Addr}{σ:ah}(h:Mk dx o σ σ')(e:σ' b=none):σ b=none:=by
 cases q:σ b with
 |none=>rfl
 |some x=>
  by_cases ne:b=dx
  .rw[ne,h.at_] at e;cases e
  .rw[h.keep b x q ne] at e;cases e
section
variable{n:Nat}{af:Env}{m:au}{σ:ah}{Q:AF->au->ah->Prop}{r:ae Stmt}
inductive yW(dx:Addr)(name:Str)(Q:ah->Prop)(b:AV)(ap:ah):Prop
 |mk (l:ae (Str×AV)) (f_:ap dx=some (.attrs l)) (hz:Nat.blt l.length 1000=true) (h: ∀σ',Mk dx (.attrs (mB l name b)) ap σ'->Q σ')
theorem dq{v:Str}{e:Expr}{p1 p2 p4:Pos}{x:Addr}(h:aQ n af e m σ (yW dx name λσ'=>ch n af r m σ' Q))(hs:pure false=xD [.Attribute (.Name v p1) name p2] e p4.line af:=by exact rfl)(hw:pure none=xF [.Attribute (.Name v p1) name p2] e af:=by exact rfl)(ht:lY [.Attribute (.Name v p1) name p2] af=[(false,assign (.Attribute (.Name v p1) name p2) af)]:=by exact rfl)
  (hl:true=qU af v:=by exact rfl) (hd:(v==("__debug__":Str))=false:=by kernel_rfl) (hv:m v=some (.obj x C dx):=by first |assumption |rfl) (sb:JT KF C name=true:=by kernel_rfl):ch n af (.Assign [.Attribute (.Name v p1) name p2] e p4::r) m σ Q:=by
 refine cg (h.mono λb ap ⟨l,f_,hz,h⟩=>Um (e_nm ?_ hv hl hd)) hs hw ht
 exact⟨x,C,dx,l,rfl,f_,.eV sb,Nat.blt_eq.mp hz,h _ ⟨bB _ _ _,λc o hc ne=>aP hc ne⟩⟩
theorem I6{a:Addr}{ao:AO}{R:ah->Prop}{l:ae (Str×AV)}(f_:σ dx=some (.attrs l))(hz:Nat.blt l.length 1000=true)(ha:σ a=none)(h: ∀σ',a≠dx->σ a=none->Mk dx (.attrs (mB l name b)) σ σ'->σ' a=some ao->R σ'):yW dx name R b (aA σ a ao):=
 have ne:=(bp f_ ha).symm
 ⟨l,aP f_ ne.symm,hz,λσ' k=>h σ' ne ha ⟨k.at_,λc o e q=>k.keep c o (aP e (bp e ha)) q⟩ (k.keep _ _ (bB _ _ _) ne)⟩
theorem mj{p:Pos}{l:ae (Str×AV)}{R:ah->Prop}(f_:σ dx=some (.attrs l))(hz:Nat.blt l.length 1000=true)(h: ∀a σ',a≠dx->σ a=none->Mk dx (.attrs (mB l name (.raw (.ref a)))) σ σ'->σ' a=some (.list [])->R σ'):aQ n af (.List [] p) m σ (yW dx name R):=
 sB (l_nil ⟨Nat.zero_le _,λa ha=>I6 f_ hz ha (h a)⟩)
theorem yA{p:Pos}{l:ae (Str×AV)}{R:ah->Prop}(f_:σ dx=some (.attrs l))(hz:Nat.blt l.length 1000=true)(h: ∀a σ',a≠dx->σ a=none->Mk dx (.attrs (mB l name (.raw (.ref a)))) σ σ'->σ' a=some (.dict [])->R σ'):aQ n af (.Dict [] [] p) m σ (yW dx name R):=
 uX λa ha=>I6 f_ hz ha (h a)
end
variable{n:Nat}{σ:ah}{Q:AV->ah->Prop}
theorem UO(q: ∀(b:BA) σ',ga b [] σ'->b.fp.Nodup->(∀c∈b.fp,σ c=none)->dg σ σ'->Q b.self σ'):aT 8 (.ref 203) [] σ Q:=by
 refine nK (fI:=115) (by kernel_rfl) (by kernel_rfl) (by kernel_rfl) λx dx dn=>?_
 refine fC (S "self") ?_
 intro Lo ev mv
 have dH:aA σ dx (.attrs []) dx=_:=bB _ _ _
 refine dq (mj dH rfl ?_)
 intro a1 aw n1 f1 m1 v1
 refine dq (yA m1.at_ rfl ?_)
 intro a2 a_ n2 f2 m2 v2
 refine dq (mj m2.at_ rfl ?_)
 intro a3 cn n3 f3 m3 v3
 refine dq (mj m3.at_ rfl ?_)
 intro a4 eO n4 f4 m4 v4
 have w1:=m2.keep _ _ v1 n1
 have wN:=m3.keep _ _ w1 n1
 have w2:=m3.keep _ _ v2 n2
 have o1:=kw f1
 have o2:=kw (m1.old f2)
 have o3:=kw (m1.old (m2.old f3))
 have o4:=kw (m1.old (m2.old (m3.old f4)))
 refine bE ⟨rfl,q ⟨x,dx,a1,a2,a3,a4⟩ eO ⟨m4.at_,m4.keep _ _ wN n1,m4.keep _ _ w2 n2,⟨[],m4.keep _ _ v3 n3,rfl⟩,⟨[],v4,rfl⟩⟩ ?_ ?_ ?_⟩
 .have e1:=bp v1 f2
  have e2:=bp w1 f3
  have e3:=bp v2 f3
  have e4:=bp wN f4
  have e5:=bp w2 f4
  have e6:=bp v3 f4
  exact iX (dM n1.symm (dM n2.symm (dM n3.symm (dM n4.symm i4)))) (iX (dM e1 (dM e2 (dM e4 i4))) (iX (dM e3 (dM e5 i4)) (iX (dM e6 i4) (iX i4 Ck))))
 .intro c hc
  exact mm hc (λq=>q▸dn) λhc=>mm hc (λq=>q▸o1.2) λhc=>mm hc (λq=>q▸o2.2) λhc=>mm hc (λq=>q▸o3.2) λhc=>mm hc (λq=>q▸o4.2) m0
 .intro b o e
  have hb:=bp e dn
  exact m4.keep _ _ (m3.keep _ _ (m2.keep _ _ (m1.keep _ _ (aP e hb) hb) hb) hb) hb
noncomputable def UA.fp(u:UA)(la:ae Addr):ae Addr:=u.du::u.ab::u.lo::u.me::la
theorem Co{u:UA}{c:Addr}(h:c∉u.fp la):c≠u.du/\c≠u.ab/\c≠u.lo/\c≠u.me/\c∉la:=
 have a:=dw h
 have b:=dw a.2
 have d:=dw b.2
 have e:=dw d.2
 ⟨a.1,b.1,d.1,e.1,e.2⟩
theorem I7{u:UA}(h:(u.fp la).Nodup):(u.du≠u.ab/\u.du≠u.lo/\u.du≠u.me/\u.du∉la)/\(u.ab≠u.lo/\u.ab≠u.me/\u.ab∉la)/\(u.lo≠u.me/\u.lo∉la)/\u.me∉la/\la.Nodup:=
 have a:=jV h
 have b:=jV a.2
 have d:=jV b.2
 have e:=jV d.2
 have a1:=dw a.1
 have a2:=dw a1.2
 have a3:=dw a2.2
 have b1:=dw b.1
 have b2:=dw b1.2
 have d1:=dw d.1
 ⟨⟨a1.1,a2.1,a3.1,a3.2⟩,⟨b1.1,b2.1,b2.2⟩,d1,e⟩
theorem TF(q: ∀(u:UA) σ',ff u [] [] [] [] σ'->(∀c∈u.fp [],σ c=none)->dg σ σ'->Q u.self σ'):aT 8 (.ref 339) [] σ Q:=by
 refine nK (fI:=275) (by kernel_rfl) (by kernel_rfl) (by kernel_rfl) λx dx dn=>?_
 refine fC (S "self") ?_
 intro Lo ev mv
 have dH:aA σ dx (.attrs []) dx=_:=bB _ _ _
 refine dq (mj dH rfl ?_)
 intro a1 aw n1 f1 m1 v1
 refine dq (mj m1.at_ rfl ?_)
 intro a2 a_ n2 f2 m2 v2
 refine dq (mj m2.at_ rfl ?_)
 intro a3 cn n3 f3 m3 v3
 have w1:=m2.keep _ _ v1 n1
 have o1:=kw f1
 have o2:=kw (m1.old f2)
 have o3:=kw (m1.old (m2.old f3))
 refine bE ⟨rfl,q ⟨x,dx,a1,a2,a3⟩ cn ⟨m3.at_,m3.keep _ _ w1 n1,m3.keep _ _ v2 n2,v3,nofun,rfl,?_⟩ ?_ ?_⟩
 .have e1:=bp v1 f2
  have e2:=bp w1 f3
  have e3:=bp v2 f3
  exact iX (dM n1.symm (dM n2.symm (dM n3.symm i4))) (iX (dM e1 (dM e2 i4)) (iX (dM e3 i4) (iX i4 Ck)))
 .intro c hc
  exact mm hc (λq=>q▸dn) λhc=>mm hc (λq=>q▸o1.2) λhc=>mm hc (λq=>q▸o2.2) λhc=>mm hc (λq=>q▸o3.2) m0
 .intro b o e
  have hb:=bp e dn
  exact m3.keep _ _ (m2.keep _ _ (m1.keep _ _ (aP e hb) hb) hb) hb
end
section
variable{n:Nat}{af:Env}{m:au}{σ:ah}{Q:AV->ah->Prop}{u:UA}{par:ae Nat}{bn:ae (ae Nat)}{la:ae Addr}{mg:ae AV}
theorem BU(U:ff u par bn la mg σ)(hz:par.length<1000){a:Nat}(ha:a<par.length)(hs: ∀o i,subscripted slice false o i=operate [o,i] (jk o i))(q:Q (am (par.getD a a)) σ):cD n σ (mD value slice (.raw (.ref u.ab)) (am a)) Q:=
 jK (.ref U.ab) hs hz (x:=par.getD a a) (by rw[cL ha,ip,cL ha];rfl) q
theorem Cp(U:ff u par bn la mg σ)(hz:par.length<1000)(hp:iD par){a:Nat}(ha:a<par.length)(q:Q (am (aE par a)) σ):aT 3 (.ref 296) [u.self,am a] σ Q:=by
 refine eL (S "self") (S "a") ?_
 intro Lo ev mv
 refine uK (λb m' σ'=>σ'=σ/\m' (S "self")=some u.self/\b<par.length/\m' (S "a")=some (am b)/\aE par b=aE par a) a ⟨rfl,rfl,ha,rfl,rfl⟩ λb m' σ' hI=>?_
 intro Qv
 obtain⟨e,hs,hb,hma,hr⟩:=hI
 subst e
 refine bu rfl (bh ?_)
 refine aS U.at_ ?_
 show ww
 refine BU U hz hb (λω ω=>rfl) ?_
 show ww
 refine vM ⟨_,rfl,?_⟩
 by_cases hq:par.getD b b=b
 .refine bL (u8 hq) (bC ?_)
  show ww
  rw[<- hr,kt hq] at q
  exact q
 .refine bS (JU hq) (cg (bh ?_))
  refine aS U.at_ ?_
  show ww
  have h1:par.getD b b<b:=Nat.lt_of_le_of_ne (hp b) hq
  exact BU U hz hb (λω ω=>rfl) (aN (bE ⟨_,h1,rfl,hs,Nat.lt_trans h1 hb,rfl,by rw[uB hp,hr]⟩))
theorem Bv(h:k<1000):(-1000000:aj)<=0/\(0:aj)<=k/\(k:aj)<=1000000:=⟨by decide,gf k,aj.le_trans (lW.mpr (Nat.le_of_lt h)) (by decide)⟩
theorem QD(U:ff u par bn la mg σ)(hz:par.length<1000)(q:Q (.lst ((dJ par).map am)) σ):aT 3 (.ref 315) [u.self] σ Q:=by
 refine mi ?_
 refine fC (S "self") ?_
 intro Lo ev mv
 refine bC (fG [(S "self",Lo+1)] (w_of ?_))
 refine bq (.type "range") ?_
 show ww
 refine bq (.builtin "len") ?_
 show ww
 refine aS U.at_ ?_
 show ww
 refine dL (.inr (.ref U.ab)) (by rw[ar];exact t1 hz) ?_
 rw[ar]
 show ww
 refine uU λr t u_1 v hr=>?_
 refine gn (aA σ r (.raw (gN 0 par.length t u_1 v))) λaw e=>?_
 have U':ff u par bn la mg aw:=U.keep (e▸iR hr)
 refine⟨_,uI ⟨_,_,_,_,rfl,e▸bB _ _ _⟩ (Bv hz).1 (Bv hz).2.1 (Bv hz).2.2,?_⟩
 rw[AL,kp,show jF 0 par.length=(AU 0 par.length).map am from xL _ 0]
 refine⟨λi acc σ'=>σ'=aw/\acc=(((c7 par.length).take i).filter λa=>par.getD a a=a).map am,⟨rfl,rfl⟩,?_,?_⟩
 .intro C i a acc σ' hl hI ce cm Jv
  obtain⟨e1,e2⟩:=hI
  subst e1 e2
  have hi:i<par.length:=by
   have:=(cV.mp hl).1
   rwa [ar,Aw] at this
  have ha:a=am i:=by
   rw[cP,ae.getElem?_range' hi] at hl
   simp at hl
   exact hl.symm
  subst ha
  have LS:(c7 par.length).take (i+1)=(c7 par.length).take i++[i]:=by
   rw[Oq,Oq,Nat.min_eq_left hi,Nat.min_eq_left (Nat.le_of_lt hi),Ot]
  refine aN (nD (bu rfl (bh ?_)))
  refine aS U'.at_ ?_
  show ww
  refine BU U' hz hi (λω ω=>rfl) ?_
  show ww
  refine jt ⟨_,rfl,?_⟩
  by_cases hq:par.getD i i=i
  .refine bS (nM hq) ?_
   show ww
   refine⟨by rw[ar];exact Nat.lt_of_le_of_lt (Nv _ _) (by rw[jA,m_];exact Nat.lt_of_le_of_lt (Nat.min_le_right _ _) (t3 hz)),rfl,?_⟩
   rw[LS,Fu,Nf (p:=λa=>decide (par.getD a a=a)) (decide_eq_true hq),bX]
   rfl
  .refine bL (nJ hq) ⟨rfl,?_⟩
   rw[LS,Fu,ae.filter_cons_of_neg (by rw[cu hq];exact Bool.false_ne_true),OB,lT]
 .intro acc σ' hI
  obtain⟨e1,e2⟩:=hI
  subst e1 e2
  refine⟨σ,λb o h=>e▸iR hr b o h,?_⟩
  rw[ar,Aw,show(c7 par.length).take par.length=c7 par.length from rO (Nat.le_of_eq m_)]
  exact q
theorem QE(U:ff u par bn la mg σ)(hz:par.length<1000)(hp:iD par){a:Nat}(ha:a<par.length){l:ae Nat}(hl:bn[aE par a]? =some l)(kT:l.length<64)(zH:bn.length<1000)
  (q: ∀l':ae Nat,l'.Perm l->Q (.lst (l'.map am)) σ):aT 6 (.ref 310) [u.self,am a] σ Q:=by
 refine eL (S "self") (S "a") ?_
 intro Lo ev mv
 have hr:aE par a<la.length:=by rw[U.len];exact(cV.mp hl).1
 refine bC ?_
 refine bq (.builtin "sorted") ?_
 show ww
 refine bh ?_
 refine aS U.at_ ?_
 refine bG 296 ?_
 show ww
 refine bI U.at_ ?_
 show ww
 refine Cp U hz hp ha ?_
 refine jK (f:=λa=>AV.raw (.ref a)) (.ref U.lo) (λω ω=>rfl) (by rw[U.len];exact zH) (cL hr) ?_
 show ww
 have he:=U.each _ _ _ (cL hr) hl
 have hlen:(l.map am).length<1000:=by rw[ar];exact Nat.lt_trans kT (by decide)
 refine Bu (r4 (λL=>L=l.map am) λL h=>h▸⟨λω=>Gg l,t2 hlen⟩) (Gf (.ref he) (t2 hlen)) (λL h=>h▸t2 hlen) λL out hL ho=>?_
 subst hL
 obtain⟨l',h1,h2⟩:=Hi r7 (ho.2.2 (by rw[ar];exact kT))
 rw[h1]
 exact q l' h2
theorem UP(U:ff u par bn la mg σ)(hz:par.length<900)(hl:bn.length<900)
  (q: ∀a σ',σ a=none->ff u (par++[par.length]) (bn++[[bn.length]]) (la++[a]) mg σ'->qq (u.fp la) σ σ'->Q (am par.length) σ'):aT 3 (.ref 282) [u.self] σ Q:=by
 refine fC (S "self") ?_
 intro Lo ev mv
 have bO:=I7 U.bO
 obtain⟨⟨d1,d2,d3,d4⟩,⟨d5,d6,d7⟩,⟨d8,d9⟩,tK,LT⟩:=bO
 have fx:par.length<1000:=Nat.lt_trans hz (by decide)
 have tM:la.length<1000:=by rw[U.len];exact Nat.lt_trans hl (by decide)
 refine fb (dF (λω=>rfl) ?_)
 refine aS U.at_ ?_
 refine⟨_,ln (.ref U.ab),dI,?_⟩
 show ww
 refine bq (.builtin "len") ?_
 show ww
 refine aS U.at_ ?_
 show ww
 refine dL (.inr (.ref U.ab)) (by rw[ar];exact t1 fx) ?_
 rw[ar]
 show ww
 refine qF U.ab (v:=par.length) rfl (t3 fx) ⟨fJ,?_⟩
 refine gn (aA σ u.ab _) λaw e1=>?_
 have gX:aw u.du=_:=e1▸aP U.at_ d1
 have mP:aw u.lo=_:=e1▸aP U.lo (fm d5)
 have LU:aw u.ab=_:=e1▸bB _ _ _
 refine fb (dF (λω=>rfl) ?_)
 refine aS gX ?_
 refine⟨_,ln (.ref mP),dI,?_⟩
 show ww
 refine sB ?_
 show ww
 refine bq (.builtin "len") ?_
 show ww
 refine aS gX ?_
 show ww
 refine dL (.inr (.ref mP)) (by rw[ar];exact t1 tM) ?_
 rw[ar,U.len]
 show ww
 refine⟨t2 (n:=1) (by decide),λa ha=>?_⟩
 show ww
 have na:σ a=none:=by
  cases q:σ a with
  |none=>rfl
  |some o=>exact ax (e1▸aP q (bp LU ha).symm:aw a=some o) (by rw[ha];exactλe=>nomatch e)
 have fa:=Co (U.fresh na)
 obtain⟨f1,f2,f3,f4,f5⟩:=fa
 refine qF (f:=λa=>AV.raw (.ref a)) (v:=a) (aP mP (fm f3)) rfl (t3 tM) ⟨fJ,?_⟩
 refine gn (aA (aA aw a _) u.lo _) λa_ e2=>?_
 have k2: ∀b o,aw b=some o->b≠u.lo->a_ b=some o:=λb o h h1=>e2▸aP (aP h (bp h ha)) h1
 have at2:=k2 _ _ gX d2
 have LW:=k2 _ _ LU d5
 refine bC (bR ?_)
 refine bq (.builtin "len") ?_
 show ww
 refine aS at2 ?_
 show ww
 refine dL (.inr (.ref LW)) (by rw[ar,bQ];exact t1 (Nat.lt_of_le_of_lt (Nat.succ_le_of_lt hz) (by decide))) ?_
 show ww
 refine mq ?_
 rw[show(((par++[par.length]).map am).length:aj) - 1=par.length from by rw[ar,bQ];exact x8 _]
 refine q a a_ na ⟨at2,LW,e2▸bB _ _ _,k2 _ _ (e1▸aP U.me (fm d6)) (fm d8),λi b l h1 h2=>?_,by rw[bQ,bQ,U.len];rfl,?_⟩ ?_
 .by_cases hi:i<la.length
  .rw[mZ hi] at h1
   rw[mZ (by rw[<- U.len];exact hi)] at h2
   have hb:b∈la:=cO h1
   exact k2 _ _ (e1▸aP (U.each i b l h1 h2) (λq=>d7 (q▸hb))) (λq=>d9 (q▸hb))
  .have dT:i=la.length:=by
    have:=(cV.mp h1).1
    rw[bQ] at this
    exact Nat.le_antisymm (Nat.le_of_lt_succ this) (Nat.le_of_not_lt hi)
   subst dT
   rw[oo (Nat.le_refl _),Nat.sub_self] at h1
   rw[U.len,oo (Nat.le_refl _),Nat.sub_self] at h2
   cases h1;cases h2
   exact e2▸aP (bB _ _ _) f3
 .rw[show u.du::u.ab::u.lo::u.me::(la++[a])=(u.du::u.ab::u.lo::u.me::la)++[a] from rfl,ot]
  refine⟨U.bO,fF.mpr ⟨jf,fA⟩,λx hx y hy q=>?_⟩
  rw[aW.mp hy] at q
  subst q
  exact U.fresh na hx
 .intro b o e hb
  have hb:=Co hb
  exact k2 _ _ (e1▸aP e hb.2.1) hb.2.2.1
end
theorem CV{a b:Nat}(h:a≠b):min a b≠max a b:=by
 rcases Nat.le_total a b with l |l
 .rw[Nat.min_eq_left l,Nat.max_eq_right l];exact h
 .rw[Nat.min_eq_right l,Nat.max_eq_left l];exact h.symm
theorem Wa{a b:Nat}(h:a=b):min a b=max a b:=by rw[h,Nat.min_self,Nat.max_self]
theorem RX{a b:Nat}(hs:ns.Pairwise (· <= ·))(hp:(ns.map AV.int).Perm [am a,am b]):ns.map AV.int=[am (min a b),am (max a b)]:=by
 rw[PS hs hp];rfl
section
variable{n:Nat}{af:Env}{m:au}{σ:ah}{Q:AV->ah->Prop}{u:UA}{par:ae Nat}{bn:ae (ae Nat)}{la:ae Addr}{mg:ae AV}
theorem I8(U:ff u par bn la mg σ)(hz:par.length<1000)(hp:iD par){v w:Str}{p1 p2 p3 p4:Pos}{a:Nat}(ha:a<par.length)(q:Q (am (aE par a)) σ)
  (he: ∀af,eval (.Call (.Attribute (.Name v p1) "find" p2) [.Name w p3] [] p4) af=(do
   let ov <- eval (.Name v p1) af
   iU p2.atName
   let(f,first) <- holding [ov] (xN ov "find" (pl af))
   qh p4 f first (jI p4 (g_ [.Name w p3] af)) []))
  (hl:true=qU af v) (tM:true=qU af w) (hd:(v==("__debug__":Str))=false) (iH:(w==("__debug__":Str))=false) (hv:m v=some u.self) (hw:m w=some (am a)):
  aQ (n+3) af (.Call (.Attribute (.Name v p1) "find" p2) [.Name w p3] [] p4) m σ Q:=by
 refine bG 296 (e_nm (bI U.at_ (l_cons (e_nm (l_nil ?_) hw tM iH))) hv hl hd) he
 exact(Cp U hz hp ha q).less (Nat.le_add_left _ _)
theorem TG(U:ff u par bn la mg σ)(hz:par.length<1000)(hp:iD par){a b:Nat}(ha:a<par.length)(hb:b<par.length)(hlen:bn.length=par.length)(hm:mg.length<1000)(kT: ∀l∈bn,l.length<1000)
  (q1:aE par a=aE par b->Q (.raw .none) σ)
  (q2:aE par a≠aE par b-> ∀kept gone lk lg σ',kept=min (aE par a) (aE par b)->gone=max (aE par a) (aE par b)->bn[kept]? =some lk->bn[gone]? =some lg->ff u (par.set gone kept) (bn.set kept (lk++lg)) la (mg++[.tup [am kept,am gone]]) σ'->qq (u.fp la) σ σ'->Q (.tup [am kept,am gone]) σ'):
  aT 6 (.ref 303) [u.self,am a,am b] σ Q:=by
 refine mG (S "self") (S "a") (S "b") ?_
 intro Lo ev mv
 refine cg ?_
 refine bq (.builtin "sorted") ?_
 show ww
 refine gm (l_cons (I8 U hz hp ha (l_cons (I8 U hz hp hb (l_nil ⟨t2 (n:=2) (by decide),?_⟩) (λω=>rfl) rfl rfl (by kernel_rfl) (by kernel_rfl) rfl rfl)) (λω=>rfl) rfl rfl (by kernel_rfl) (by kernel_rfl) rfl rfl))
 show ww
 have hS: ∀L:ae AV,L=[am (aE par a),am (aE par b)]->(∀x∈L,∃i,x=AV.int i)/\L.length<64:=λL h=>by
  subst h;exact⟨λx hx=>by simp at hx;rcases hx with rfl |rfl<;>exact⟨_,rfl⟩,show 2<64 by decide⟩
 refine Bu (Gq _ hS) (Gf (.lst [am (aE par a),am (aE par b)]) (t2 (n:=2) (by decide))) (λL h=>h▸t2 (n:=2) (by decide)) λL out hL ho=>?_
 subst hL
 obtain⟨ns,rfl,hs,Y0⟩:=ho
 rw[RX hs Y0]
 have rB:=nF hp a
 have wO:=nF hp b
 have Eh:min (aE par a) (aE par b)<par.length:=Nat.lt_of_le_of_lt (Nat.min_le_left _ _) (Nat.lt_of_le_of_lt rB.2 ha)
 have zJ:max (aE par a) (aE par b)<par.length:=Nat.max_lt.mpr ⟨Nat.lt_of_le_of_lt rB.2 ha,Nat.lt_of_le_of_lt wO.2 hb⟩
 have cj:aE par a≠aE par b->min (aE par a) (aE par b)≠max (aE par a) (aE par b):=CV
 have heq:aE par a=aE par b->min (aE par a) (aE par b)=max (aE par a) (aE par b):=Wa
 revert Eh cj heq
 refine gn (min (aE par a) (aE par b)) λkept hk=>?_
 intro Eh cj heq
 revert zJ cj heq
 refine gn (max (aE par a) (aE par b)) λgone hg=>?_
 intro zJ cj heq
 have gW:kept<bn.length:=hlen▸Eh
 have oh:gone<bn.length:=hlen▸zJ
 have kU:=cL gW
 have kW:=cL oh
 have LX:=kT _ (gK gW)
 have LY:=kT _ (gK oh)
 generalize bn[kept]=lk at kU LX
 generalize bn[gone]=lg at kW LY
 have bJ:kept<la.length:=U.len▸gW
 have DR:gone<la.length:=U.len▸oh
 have qY:=cL bJ
 have zK:=cL DR
 generalize la[kept]=xk at qY
 generalize la[gone]=xg at zK
 have mk:=cO qY
 have tO:=cO zK
 have bO:=I7 U.bO
 obtain⟨⟨d1,d2,d3,d4⟩,⟨d5,d6,d7⟩,⟨d8,d9⟩,tK,LT⟩:=bO
 have zH:la.length<1000:=by rw[U.len,hlen];exact hz
 refine kC (.lst _) (eR (aN (eR (aN (kH ?_)))))
 refine gv (bu rfl ?_)
 show ww
 refine jt ⟨_,rfl,?_⟩
 by_cases hq:aE par a=aE par b
 .refine bS (nM (heq hq)) (bC (e_none ?_))
  exact q1 hq
 refine bL (nJ (cj hq)) (bE (cg ?_))
 have j_:=cj hq
 show ww
 refine PR (λω ω ω ω=>rfl) ?_
 refine aS U.at_ ?_
 show ww
 refine⟨_,_,gone,rfl,U.ab,rfl,by rw[ar];exact zJ,by rw[ar];exact Nat.le_of_lt hz,?_⟩
 rw[show(par.map am).set gone (am kept)=(par.set gone kept).map am from(ae.map_set ..).symm]
 refine gn (aA _ u.ab _) λaw e1=>?_
 have gX:aw u.du=_:=e1▸aP U.at_ d1
 have mP:aw u.lo=_:=e1▸aP U.lo (fm d5)
 have LZ:aw xk=_:=e1▸aP (U.each kept _ _ qY kU) (λq:xk=u.ab=>d7 (q▸mk))
 have Y1:aw xg=_:=e1▸aP (U.each gone _ _ zK kW) (λq:xg=u.ab=>d7 (q▸tO))
 refine fb (dF (λω=>rfl) (bh ?_))
 refine aS gX ?_
 show ww
 refine jK (f:=λa=>AV.raw (.ref a)) (.ref mP) (λω ω=>rfl) zH qY ?_
 refine⟨_,xZ (.ref LZ),dI,?_⟩
 show ww
 refine bh ?_
 refine aS gX ?_
 show ww
 refine jK (f:=λa=>AV.raw (.ref a)) (.ref mP) (λω ω=>rfl) zH zK ?_
 show ww
 refine x0 LZ (.ref Y1) (by rw[ar,ar];exact Nat.le_trans (Nat.add_le_add (Nat.le_of_lt LX) (Nat.le_of_lt LY)) (by rw[eZ];decide)) ⟨fJ,?_⟩
 rw[<- bX]
 refine gn (aA aw xk _) λa_ e2=>?_
 have at2:a_ u.du=_:=e2▸aP gX (λq=>d4 (q▸mk))
 have L0:a_ u.me=_:=e2▸aP (e1▸aP U.me (fm d6)) (λq=>tK (q▸mk))
 refine fb (dF (λω=>rfl) ?_)
 refine aS at2 ?_
 refine⟨_,ln (.ref L0),dI,?_⟩
 show ww
 refine e_tuple ?_
 show ww
 refine⟨t2 (n:=2) (by decide),?_⟩
 show ww
 refine uH L0 (t3 hm) ⟨fJ,?_⟩
 refine bC (e_tuple ?_)
 show ww
 refine⟨t2 (n:=2) (by decide),?_⟩
 refine q2 hq kept gone lk lg _ hk.symm hg.symm kU kW ⟨aP at2 d3,aP (e2▸aP (e1▸bB _ _ _) (λq=>d7 (q▸mk))) d6,aP (e2▸aP mP (λq=>d9 (q▸mk))) d8,bB _ _ _,λi x l h1 h2=>?_,by rw[AD];exact U.len,U.bO⟩ λc o hc hF=>?_
 .have zL:x∈la:=cO h1
  refine aP ?_ (λq=>tK (q▸zL))
  by_cases hi:i=kept
  .subst hi
   rw[An gW] at h2
   rw[qY] at h1
   cases h1;cases h2
   exact e2▸bB _ _ _
  .rw[As (fm hi)] at h2
   have cj:x≠xk:=by
    intro q
    have ob:i<la.length:=(cV.mp h1).1
    exact hi ((N0 ob LT).mp (h1.trans (by rw[q];exact qY.symm)))
   exact e2▸aP (e1▸aP (U.each i x l h1 h2) (λq=>d7 (q▸zL))) cj
 .have hF:=Co hF
  exact aP (e2▸aP (e1▸aP hc hF.2.1) (λq=>hF.2.2.2.2 (q▸mk))) hF.2.2.2.1
end
set_option genInjectivity false in
structure HA where
 x:Addr
 d:Addr
 b:BA
 u:UA
 ed:Addr
 fo:Addr
 kn:Addr
 av:Addr
 wa:Addr
noncomputable def HA.self(h:HA):AV:= .obj h.x 469 h.d
noncomputable def HA.at_(h:HA):AO:= .attrs [(S "bank",h.b.self),(S "unions",h.u.self),(S "edges",.raw (.ref h.ed)),(S "forest",.raw (.ref h.fo)),(S "known",.raw (.ref h.kn)),(S "above",.raw (.ref h.av)),(S "waiting",.raw (.ref h.wa))]
noncomputable def HA.six(h:HA):ae Addr:=[h.d,h.ed,h.fo,h.kn,h.av,h.wa]
set_option genInjectivity false in
structure HD where
 nodes:ae Nd
 par:ae Nat
 bn:ae (ae Nat)
 la:ae Addr
 ne:Nat
 nf:Nat
 nm:Nat
 kn:ae (Nd×Nat)
 aa:ae (Nat×(Addr×ae Nat))
 wl:ae Nat
def tP(a:Addr)(n:Nat)(σ:ah):Prop:= ∃l:ae AV,σ a=some (.list l)/\l.length=n
structure HS(h:HA)(D:HD)(σ:ah):Prop where
 at_:σ h.d=some h.at_
 bk:ga h.b D.nodes σ
 un: ∃mg,ff h.u D.par D.bn D.la mg σ/\mg.length=D.nm
 ed:tP h.ed D.ne σ
 fo:tP h.fo D.nf σ
 kn:σ h.kn=some (.dict (aZ dG am D.kn))
 av:σ h.av=some (.dict (aZ am (λp=> .raw (.ref p.1)) D.aa))
 each: ∀p∈D.aa,σ p.2.1=some (.list (p.2.2.map am))
 wa:σ h.wa=some (.list (D.wl.map am))
 six:h.six.Nodup
 mH:h.b.fp.Nodup
 db: ∀c∈h.b.fp,c∉h.six
 du: ∀c∈h.u.fp D.la,c∉h.six/\c∉h.b.fp
 da: ∀p∈D.aa,p.2.1∉h.six/\p.2.1∉h.b.fp/\p.2.1∉h.u.fp D.la
 anew:(D.aa.map (·.2.1)).Nodup
 eh:(D.aa.map (·.1)).Nodup
def ij(h:HA)(D:HD)(c:Addr):Prop:=c∈h.six\/c∈h.b.fp\/c∈h.u.fp D.la\/ ∃p∈D.aa,p.2.1=c
def dU(h:HA)(D D':HD)(σ σ':ah):Prop:= ∀c o,σ c=some o-> ¬ij h D c->σ' c=some o/\ ¬ij h D' c
theorem dU.refl{h:HA}{D:HD}{σ:ah}:dU h D D σ σ:=λω ω e n=>⟨e,n⟩
theorem dU.trans{h:HA}{D D' mV:HD}{σ σ' fD:ah}(a:dU h D D' σ σ')(b:dU h D' mV σ' fD):dU h D mV σ fD:=λc o e n=>have x:=a c o e n;b c o x.1 x.2
section
variable{h:HA}{D:HD}{σ σ':ah}
theorem HS.held(T:HS h D σ){c:Addr}(o:ij h D c):σ c≠none:=by
 intro e
 rcases o with o |o |o |⟨p,hp,q⟩
 .obtain⟨l1,h1,_⟩:=T.ed
  obtain⟨l2,h2,_⟩:=T.fo
  exact mm o (λq=>im q T.at_ e) λo=>mm o (λq=>im q h1 e) λo=>mm o (λq=>im q h2 e) λo=>mm o (λq=>im q T.kn e) λo=>mm o (λq=>im q T.av e) λo=>mm o (λq=>im q T.wa e) m0
 .obtain⟨l1,h1,_⟩:=T.bk.we
  obtain⟨l2,h2,_⟩:=T.bk.de
  exact mm o (λq=>im q T.bk.at_ e) λo=>mm o (λq=>im q T.bk.no e) λo=>mm o (λq=>im q T.bk.nu e) λo=>mm o (λq=>im q h1 e) λo=>mm o (λq=>im q h2 e) m0
 .obtain⟨mg,U,_⟩:=T.un;exact U.fresh e o
 .exact im q.symm (T.each p hp) e
theorem HS.fresh(T:HS h D σ){c:Addr}(e:σ c=none):c∉h.six/\c∉h.b.fp/\c∉h.u.fp D.la/\ ∀p∈D.aa,p.2.1≠c:=
 ⟨λq=>T.held (.inl q) e,λq=>T.held (.inr (.inl q)) e,λq=>T.held (.inr (.inr (.inl q))) e,λp hp q=>T.held (.inr (.inr (.inr ⟨p,hp,q⟩))) e⟩
theorem HS.keep(T:HS h D σ)(k: ∀c,ij h D c-> ∀o,σ c=some o->σ' c=some o):HS h D σ':=by
 have k6: ∀c∈h.six,∀o,σ c=some o->σ' c=some o:=λc hc=>k c (.inl hc)
 obtain⟨mg,U,hm⟩:=T.un
 obtain⟨l1,h1,kc⟩:=T.ed
 obtain⟨l2,h2,kf⟩:=T.fo
 exact⟨k6 _ (.head _) _ T.at_,T.bk.keep λc hc=>k c (.inr (.inl hc)),⟨mg,⟨k _ (.inr (.inr (.inl (.head _)))) _ U.at_,k _ (.inr (.inr (.inl (.tail _ (.head _))))) _ U.ab,k _ (.inr (.inr (.inl (.tail _ (.tail _ (.head _)))))) _ U.lo,k _ (.inr (.inr (.inl (.tail _ (.tail _ (.tail _ (.head _))))))) _ U.me,
  λi a l e1 e2=>k _ (.inr (.inr (.inl (.tail _ (.tail _ (.tail _ (.tail _ (cO e1)))))))) _ (U.each i a l e1 e2),U.len,U.bO⟩,hm⟩,
  ⟨l1,k6 _ (.tail _ (.head _)) _ h1,kc⟩,⟨l2,k6 _ (.tail _ (.tail _ (.head _))) _ h2,kf⟩,k6 _ (.tail _ (.tail _ (.tail _ (.head _)))) _ T.kn,k6 _ (.tail _ (.tail _ (.tail _ (.tail _ (.head _))))) _ T.av,
  λp hp=>k _ (.inr (.inr (.inr ⟨p,hp,rfl⟩))) _ (T.each p hp),k6 _ (.tail _ (.tail _ (.tail _ (.tail _ (.tail _ (.head _)))))) _ T.wa,T.six,T.mH,T.db,T.du,T.da,T.anew,T.eh⟩
end
section
variable{n:Nat}{af:Env}{m:au}{h:HA}{D:HD}{σ:ah}{Q:AV->ah->Prop}
structure HZ(D:HD):Prop where
 n:D.nodes.length<=50
 p:D.par.length<=D.nodes.length
 l:D.bn.length=D.par.length
 down:iD D.par
theorem HZ.n'{D:HD}(Z:HZ D):D.nodes.length<1000:=Nat.lt_of_le_of_lt Z.n (by decide)
theorem HZ.p'{D:HD}(Z:HZ D):D.par.length<1000:=Nat.lt_of_le_of_lt (Nat.le_trans Z.p Z.n) (by decide)
theorem Ib(T:HS h D σ)(Z:HZ D)(q:Q (am D.nodes.length) σ):aT 6 (.ref 364) [h.self] σ Q:=by
 refine fC (S "self") ?_
 intro Lo ev mv
 refine bC ?_
 refine bG 122 ?_
 refine aS T.at_ ?_
 refine bI T.bk.at_ ?_
 show ww
 exact TB T.bk Z.n' q
theorem oN(T:HS h D σ)(Z:HZ D){a:Nat}(ha:a<D.par.length)(q:Q (am (aE D.par a)) σ):aT 6 (.ref 393) [h.self,am a] σ Q:=by
 obtain⟨mg,U,_⟩:=T.un
 refine eL (S "self") (S "n") ?_
 intro Lo ev mv
 refine bC ?_
 refine bG 296 ?_
 refine aS T.at_ ?_
 refine bI U.at_ ?_
 show ww
 exact Cp U Z.p' Z.down ha q
theorem A3(T:HS h D σ)(Z:HZ D)(q:Q (.lst ((dJ D.par).map am)) σ):aT 6 (.ref 435) [h.self] σ Q:=by
 obtain⟨mg,U,_⟩:=T.un
 refine fC (S "self") ?_
 intro Lo ev mv
 refine bC ?_
 refine bG 315 ?_
 refine aS T.at_ ?_
 refine bI U.at_ ?_
 show ww
 exact QD U Z.p' q
theorem PX(T:HS h D σ)(Z:HZ D){a:Nat}(ha:a<D.par.length){l:ae Nat}(hl:D.bn[aE D.par a]? =some l)(kT:l.length<=50)(q: ∀l':ae Nat,l'.Perm l->Q (.lst (l'.map am)) σ):aT 9 (.ref 442) [h.self,am a] σ Q:=by
 obtain⟨mg,U,_⟩:=T.un
 refine eL (S "self") (S "c") ?_
 intro Lo ev mv
 refine bC ?_
 refine bG 310 ?_
 refine aS T.at_ ?_
 refine bI U.at_ ?_
 show ww
 exact QE U Z.p' Z.down ha hl (Nat.lt_of_le_of_lt kT (by decide)) (by rw[Z.l];exact Z.p') q
theorem Ic(T:HS h D σ)(Z:HZ D){s:Nd}(hk:D.nodes[k]? =some s)(hs: ∀a∈s.kids,a<D.par.length)(q:Q (dG (s.map (aE D.par))) σ):aT 9 (.ref 369) [h.self,am k] σ Q:=by
 refine eL (S "self") (S "n") ?_
 intro Lo ev mv
 refine bC (bR (e_tuple ?_))
 show ww
 refine bG 160 ?_
 refine aS T.at_ ?_
 refine bI T.bk.at_ ?_
 show ww
 refine(JW T.bk Z.n' hk ?_).less (by decide)
 show ww
 refine⟨t2 (n:=1) (by decide),?_⟩
 refine bq (.type "tuple") ?_
 show ww
 refine fG [(S "self",Lo+1)] (w_seq ?_)
 refine bG 167 ?_
 refine aS T.at_ ?_
 refine bI T.bk.at_ ?_
 show ww
 refine(BS T.bk Z.n' hk ?_).less (by decide)
 have gW:s.kids.length<1000:=Nat.lt_of_le_of_lt s.ji (by decide)
 refine⟨_,.tup _,qj (L:=s.kids) (f:=am) (λa=>am (aE D.par a)) (t2 gW) (λC k bJ=>?_) ?_⟩
 .refine aN ?_
  refine bG 393 ?_
  show ww
  refine bI T.at_ ?_
  show ww
  exact oN T Z (hs k bJ) ⟨rfl,rfl⟩
 .show ww
  refine oJ (.lst _) (by rw[ar];exact t2 gW) (uy (by rw[ar,Nat.add_comm];exact t2 (Nat.lt_of_le_of_lt (Nat.succ_le_succ s.ji) (by decide))) ?_)
  have:dG (s.map (aE D.par))= .tup ([AV.str s.op]++s.kids.map λa=>am (aE D.par a)):=by
   unfold dG;rw[Sh.I0,Sh.uL,cQ];rfl
  rw[this] at q
  exact q
theorem TH(l:ae Nd): ∀a∈l.map dG,aM 4 a/\ ∀b∈l.map dG,dp b=dp a:=λa ha=>by
 obtain⟨s,_,rfl⟩:=aU.mp ha
 exact⟨v0.dat s,λb hb=>by obtain⟨t,_,rfl⟩:=aU.mp hb;rfl⟩
theorem Bw: ∀(l l':ae Nat),h_ (l.map am) (l'.map am)
 |[],_=>qw _
 |a::l,[]=>True.intro
 |a::l,b::l'=>jm (λω=>Bw l l') λω=>ci _ _
theorem PY(h: ∀a∈L,∃s:Nd,a=dG s):kJ L:=⟨.Dm λa ha=>by obtain⟨s,rfl⟩:=h a ha;exact⟨_,_,rfl⟩,
 λa ha=>by obtain⟨s,rfl⟩:=h a ha;exact(I4 s).up (by decide),λa ha b hb=>by
  obtain⟨s,rfl⟩:=h a ha
  obtain⟨t,rfl⟩:=h b hb
  exact ct (jm (λω=>Bw _ _) λω=>vN _ _)⟩
theorem TJ(h: ∀a∈L,∃s:Nd,a=dG s): ∃l:ae Nd,L=l.map dG:=by
 induction L with
 |nil=>exact⟨[],rfl⟩
 |cons a r ih=>
  obtain⟨s,rfl⟩:=h a (.head _)
  obtain⟨l,rfl⟩:=ih λb hb=>h b (.tail _ hb)
  exact⟨s::l,rfl⟩
theorem Pp(T:HS h D σ)(Z:HZ D){a:Nat}(ha:a<D.par.length){l:ae Nat}(hl:D.bn[aE D.par a]? =some l)(kT:l.length<=50)(Y2: ∀k∈l,∃s,D.nodes[k]? =some s/\ ∀x∈s.kids,x<D.par.length)
  (q: ∀L:ae Nd,(∀s,s∈L↔ ∃k∈l,∃t,D.nodes[k]? =some t/\s=t.map (aE D.par))->L.length<=l.length->Q (.lst (L.map dG)) σ):aT 12 (.ref 447) [h.self,am a] σ Q:=by
 refine mi ?_
 refine eL (S "self") (S "c") ?_
 intro Lo ev mv
 refine bC ?_
 refine bq (.builtin "sorted") ?_
 show ww
 refine bq (.type "set") ?_
 show ww
 refine fG [(S "self",Lo+1)] (w_seq ?_)
 refine bG 442 ?_
 show ww
 refine bI T.at_ ?_
 show ww
 refine PX T Z ha hl kT λl' hp=>?_
 have hlen:l'.length<=50:=hp.length_eq▸kT
 refine⟨_,.lst _,λi acc σ'=>σ'=σ/\ ∃L:ae Nd,acc=L.map dG/\L.length=min i l'.length/\ ∀s,s∈L↔ ∃k∈l'.take i,∃t,D.nodes[k]? =some t/\s=t.map (aE D.par),⟨rfl,[],rfl,(Nat.zero_min _).symm,λs=>⟨λh=>(nomatch h),λ⟨k,hk,_⟩=>by rw[pZ] at hk;cases hk⟩⟩,?_,?_⟩
 .intro C i b acc σ' hi hI ce cm Jv
  obtain⟨e1,L,e2,hL,hm⟩:=hI
  subst e1 e2
  rw[cP] at hi
  obtain⟨k,bJ,rfl⟩:=dA.mp hi
  have ob:i<l'.length:=(cV.mp bJ).1
  obtain⟨s,hs,Y3⟩:=Y2 k (hp.mem_iff.mp (cO bJ))
  refine aN (iV (bS rfl ?_))
  refine bG 369 ?_
  show ww
  refine bI T.at_ ?_
  show ww
  refine Ic T Z hs Y3 ⟨?_,rfl,L++[s.map (aE D.par)],by rw[bX];rfl,?_,λt=>?_⟩
  .rw[ar,hL];exact t3 (Nat.lt_of_le_of_lt (Nat.le_trans (Nat.min_le_right _ _) hlen) (by decide))
  .rw[bQ,hL,Nat.min_eq_left (Nat.le_of_lt ob),Nat.min_eq_left ob];rfl
  .rw[cy,hm,fh,bJ]
   constructor
   .rintro(⟨k',h1,h2⟩ |h1)
    .exact⟨k',gc _ h1,h2⟩
    .exact⟨k,iN _ (.head _),s,hs,aW.mp h1⟩
   .rintro⟨k',h1,t',h2,h3⟩
    rcases cy.mp h1 with h1 |h1
    .exact .inl ⟨k',h1,t',h2,h3⟩
    .have:k'=k:=aW.mp h1
     subst this
     rw[hs] at h2;cases h2
     exact .inr (aW.mpr h3)
 .intro acc σ' hI
  obtain⟨e1,L,e2,hL,hm⟩:=hI
  subst e1 e2
  rw[ar] at hL hm
  rw[g8] at hm
  have Ei:L.length<=l.length:=by rw[hL,<- hp.length_eq];exact Nat.min_le_right _ _
  show ww
  refine yT (TH L) (by rw[ar];exact Nat.le_trans Ei (Nat.le_trans kT (by decide))) λd L' hd pN rC=>?_
  rw[ar] at rC
  have hx: ∀a∈L',∃s:Nd,a=dG s:=λa ha=>by
   obtain⟨s,_,e⟩:=aU.mp ((pN a).mp ha);exact⟨s,e.symm⟩
  have hz:L'.length<=50:=Nat.le_trans rC (Nat.le_trans Ei kT)
  have kQ: ∀X:ae AV,X.Perm L'->(2<=X.length->kJ X)/\X.length<=sizeLine:=λX hX=>
   ⟨λω=>PY λa ha=>hx a (hX.mem_iff.mp ha),by rw[hX.length_eq];exact t2 (Nat.lt_of_le_of_lt hz (by decide))⟩
  show ww
  refine AR (l:=L') (bB _ _ _) (r4 (λX=>X.Perm L') kQ) (t2 (Nat.lt_of_le_of_lt hz (by decide))) λX out hX ho=>?_
  have Xi: ∀a∈out,∃s:Nd,a=dG s:=λa ha=>hx a (hX.mem_iff.mp (ho.1 a ha))
  obtain⟨O,rfl⟩:=TJ Xi
  have fM:=(ho.2.2 (by rw[hX.length_eq];exact Nat.lt_of_le_of_lt hz (by decide))).trans hX
  refine⟨σ',λb o e=>?_,q O (λs=>?_) ?_⟩
  .have ne:b≠d:=bp e hd
   rw[iY _ ne];exact aP e ne
  .have e1:s∈O↔dG s∈O.map dG:=⟨λq=>aU.mpr ⟨s,q,rfl⟩,λq=>by obtain⟨t,h1,h2⟩:=aU.mp q;rwa [<- Cn h2]⟩
   have e2:dG s∈L.map dG↔s∈L:=⟨λq=>by obtain⟨t,h1,h2⟩:=aU.mp q;rwa [<- Cn h2],λq=>aU.mpr ⟨s,q,rfl⟩⟩
   rw[e1,fM.mem_iff,pN,e2,hm]
   exact⟨λ⟨k,h1,h2⟩=>⟨k,hp.mem_iff.mp h1,h2⟩,λ⟨k,h1,h2⟩=>⟨k,hp.mem_iff.mpr h1,h2⟩⟩
  .have:=fM.length_eq
   rw[ar] at this
   rw[this];exact Nat.le_trans rC Ei
end
section
theorem Bx{κ:Type}(k:κ)(l:ae (κ×β)):(gU k l).Sublist l:=by
 induction l with
 |nil=>exact ae.Sublist.slnil
 |cons p r ih=>
  rw[uC]
  by_cases e:p.1=k
  .rw[if_pos e];exact ae.sublist_cons_self _ _
  .rw[aK e];exact ih.cons_cons _
theorem Hl{κ γ:Type}(g:β->γ)(k:κ)(v:β){l:ae (κ×β)}(hn:(l.map (λp=>g p.2)).Nodup)(hv: ∀p∈l,g p.2≠g v):((bH k v l).map (λp=>g p.2)).Nodup:=by
 induction l with
 |nil=>exact fF.mpr ⟨jf,fA⟩
 |cons p r ih=>
  rw[eQ,fF] at hn
  rw[li]
  by_cases e:p.1=k
  .rw[if_pos e,eQ,fF]
   refine⟨λq=>?_,hn.2⟩
   obtain⟨x,hx,e⟩:=aU.mp q
   exact hv x (.tail _ hx) e
  .rw[aK e,eQ,fF]
   refine⟨λq=>?_,ih hn.2 λp hp=>hv p (.tail _ hp)⟩
   obtain⟨x,hx,e⟩:=aU.mp q
   rcases iT hx with rfl |hx
   .exact hv p (.head _) e.symm
   .exact hn.1 (aU.mpr ⟨x,hx,e⟩)
theorem RY{κ:Type}{k j:κ}(h:j≠k)(l:ae (κ×β)):aX j (gU k l)=aX j l:=by
 induction l with
 |nil=>rfl
 |cons p r ih=>
  rw[uC]
  by_cases e:p.1=k
  .rw[if_pos e,dS,aK λq=>h (q.symm.trans e)]
  .rw[aK e,dS,dS,ih]
structure Y4(h:HA):Prop where
 d1:h.d≠h.ed
 d2:h.d≠h.fo
 d3:h.d≠h.kn
 d4:h.d≠h.av
 d5:h.d≠h.wa
 e1:h.ed≠h.fo
 e2:h.ed≠h.kn
 e3:h.ed≠h.av
 e4:h.ed≠h.wa
 f1:h.fo≠h.kn
 f2:h.fo≠h.av
 f3:h.fo≠h.wa
 k1:h.kn≠h.av
 k2:h.kn≠h.wa
 a1:h.av≠h.wa
theorem HA.apart{h:HA}(n:h.six.Nodup):Y4 h:=by
 have a:=jV n
 have b:=jV a.2
 have c:=jV b.2
 have d:=jV c.2
 have e:=jV d.2
 have a1:=dw a.1
 have a2:=dw a1.2
 have a3:=dw a2.2
 have a4:=dw a3.2
 have b1:=dw b.1
 have b2:=dw b1.2
 have b3:=dw b2.2
 have c1:=dw c.1
 have c2:=dw c1.2
 have d1:=dw d.1
 exact⟨a1.1,a2.1,a3.1,a4.1,(dw a4.2).1,b1.1,b2.1,b3.1,(dw b3.2).1,c1.1,c2.1,(dw c2.2).1,d1.1,(dw d1.2).1,(dw e.1).1⟩
section
variable{h:HA}
theorem HA.zN:h.d∈h.six:= .head _
theorem HA.nU:h.ed∈h.six:= .tail _ (.head _)
theorem HA.qN:h.fo∈h.six:= .tail _ (.tail _ (.head _))
theorem HA.pk:h.kn∈h.six:= .tail _ (.tail _ (.tail _ (.head _)))
theorem HA.iF:h.av∈h.six:= .tail _ (.tail _ (.tail _ (.tail _ (.head _))))
theorem HA.lK:h.wa∈h.six:= .tail _ (.tail _ (.tail _ (.tail _ (.tail _ (.head _)))))
end
noncomputable def HD.joined(D:HD)(kept gone:Nat)(lk lg xk xg:ae Nat)(c:Addr):HD:=
 ⟨D.nodes,D.par.set gone kept,D.bn.set kept (lk++lg),D.la,D.ne+1,D.nf+1,D.nm+1,D.kn,bH kept (c,xk++xg) (gU gone D.aa),D.wl++xg⟩
noncomputable def HD.vD(D:HD):HD:=⟨D.nodes,D.par,D.bn,D.la,D.ne+1,D.nf,D.nm,D.kn,D.aa,D.wl⟩
variable{n:Nat}{af:Env}{m:au}{h:HA}{D:HD}{σ:ah}{Q:AV->ah->Prop}
structure HJ(D:HD):Prop where
 ne:D.ne<10000000
 nf:D.nf<900
 nm:D.nm<900
 kh: ∀l∈D.bn,l.length<=50
 wl:D.wl.length<5000
 ab: ∀p∈D.aa,p.2.2.length<1000
 aa:D.aa.length<900
 key: ∀c<D.par.length,D.par.getD c c=c-> ∃v,aX c D.aa=some v
theorem Id(T:HS h D σ)(Z:HZ D)(J:HJ D){a b:Nat}(ha:a<D.par.length)(hb:b<D.par.length){rs:AV}
  (q1:aE D.par a=aE D.par b-> ∀σ',HS h D.vD σ'->dU h D D.vD σ σ'->Q (.raw (.bool false)) σ')
  (q2:aE D.par a≠aE D.par b-> ∀kept gone lk lg ak xk ag xg c σ',kept=min (aE D.par a) (aE D.par b)->gone=max (aE D.par a) (aE D.par b)->D.bn[kept]? =some lk->D.bn[gone]? =some lg->aX kept D.aa=some (ak,xk)->aX gone D.aa=some (ag,xg)->
   HS h (D.joined kept gone lk lg xk xg c) σ'->dU h D (D.joined kept gone lk lg xk xg c) σ σ'->Q (.raw (.bool true)) σ'):
  aT 9 (.ref 414) [h.self,am a,am b,rs] σ Q:=by
 obtain⟨mg,U,tQ⟩:=T.un
 obtain⟨l1,L1,cj⟩:=T.ed
 obtain⟨l2,Y5,Ej⟩:=T.fo
 have X:=HA.apart T.six
 have du:=T.du
 have qG: ∀c∈h.six,c∉h.u.fp D.la:=λc h1 h2=>(du c h2).1 h1
 have Y6: ∀c∈h.b.fp,c∉h.u.fp D.la:=λc h1 h2=>(du c h2).2 h1
 refine y_ (S "self") (S "a") (S "b") (S "reason") ?_ (by with_unfolding_all rfl) (by kernel_rfl) λω ω ω ω=>rfl
 intro Lo ev mv
 refine fb (dF (λω=>rfl) ?_)
 refine aS T.at_ ?_
 refine⟨_,ln (.ref L1),dI,?_⟩
 show ww
 refine e_tuple ?_
 show ww
 refine⟨t2 (n:=3) (by decide),?_⟩
 show ww
 refine uH L1 (by rw[cj,eZ];exact Nat.lt_trans J.ne (by decide)) ⟨fJ,?_⟩
 refine gn (aA σ h.ed _) λaw e1=>?_
 have k1: ∀c o,σ c=some o->c≠h.ed->aw c=some o:=λc o hc ne=>e1▸aP hc ne
 have gX:=k1 _ _ T.at_ X.d1
 have U1:ff h.u D.par D.bn D.la mg aw:=by
  have k: ∀c∈h.u.fp D.la,∀o,σ c=some o->aw c=some o:=λc hc o e=>k1 c o e λq=>qG _ HA.nU (q▸hc)
  exact⟨k _ (.head _) _ U.at_,k _ (.tail _ (.head _)) _ U.ab,k _ (.tail _ (.tail _ (.head _))) _ U.lo,k _ (.tail _ (.tail _ (.tail _ (.head _)))) _ U.me,λi a l h1 h2=>k _ (.tail _ (.tail _ (.tail _ (.tail _ (cO h1))))) _ (U.each i a l h1 h2),U.len,U.bO⟩
 have L2:tP h.ed (D.ne+1) aw:=⟨_,e1▸bB _ _ _,by rw[bQ,cj];rfl⟩
 have L4:=k1 _ _ Y5 X.e1.symm
 have L5:=k1 _ _ T.kn X.e2.symm
 have L6:=k1 _ _ T.av X.e3.symm
 have tR:=k1 _ _ T.wa X.e4.symm
 have L7:=T.bk.keep (σ':=aw) λc hc o e=>k1 c o e λq=>T.db c hc (q▸HA.nU)
 have L8: ∀p∈D.aa,aw p.2.1=some (.list (p.2.2.map am)):=λp hp=>k1 _ _ (T.each p hp) λq=>(T.da p hp).1 (q▸HA.nU)
 refine cg ?_
 refine bG 303 ?_
 refine aS gX ?_
 refine bI U1.at_ ?_
 show ww
 refine TG U1 Z.p' Z.down ha hb Z.l (by rw[tQ];exact Nat.lt_trans J.nm (by decide)) (λl hl=>Nat.lt_of_le_of_lt (J.kh l hl) (by decide)) (λhq=>?_) (λhq kept gone lk lg a_ hk hg kU kW U2 kb2=>?_)
 .refine aN ?_
  intro mv
  refine te (bu rfl ?_)
  show ww
  refine GH ⟨_,rfl,rfl,bC (e_bool ?_)⟩
  refine q1 hq aw ⟨gX,L7,⟨mg,U1,tQ⟩,L2,⟨l2,L4,Ej⟩,L5,L6,L8,tR,T.six,T.mH,T.db,T.du,T.da,T.anew,T.eh⟩ λc o hc ho=>⟨k1 c o hc λq=>ho (.inl (q▸HA.nU)),ho⟩
 refine aN ?_
 intro mv
 refine eM (bu rfl ?_)
 show ww
 refine GH ⟨_,rfl,rfl,?_⟩
 have at2:=kb2 _ _ gX (qG _ HA.zN)
 have L9:=kb2 _ _ L4 (qG _ HA.qN)
 have Y7:=kb2 _ _ L5 (qG _ HA.pk)
 have Ek:=kb2 _ _ L6 (qG _ HA.iF)
 have Y8:=kb2 _ _ tR (qG _ HA.lK)
 have Y9:tP h.ed (D.ne+1) a_:=let⟨l,x,y⟩:=L2;⟨l,kb2 _ _ x (qG _ HA.nU),y⟩
 have Y_:=L7.keep (σ':=a_) λc hc o e=>kb2 c o e (Y6 c hc)
 have Y': ∀p∈D.aa,a_ p.2.1=some (.list (p.2.2.map am)):=λp hp=>kb2 _ _ (L8 p hp) (T.da p hp).2.2
 have rB:=nF Z.down a
 have wO:=nF Z.down b
 have Za:kept<D.par.length:=hk▸Nat.lt_of_le_of_lt (Nat.min_le_left _ _) (Nat.lt_of_le_of_lt rB.2 ha)
 have Zb:gone<D.par.length:=hg▸Nat.max_lt.mpr ⟨Nat.lt_of_le_of_lt rB.2 ha,Nat.lt_of_le_of_lt wO.2 hb⟩
 have kr:D.par.getD kept kept=kept:=by
  rcases Nat.le_total (aE D.par a) (aE D.par b) with l |l
  .rw[hk,Nat.min_eq_left l];exact rB.1
  .rw[hk,Nat.min_eq_right l];exact wO.1
 have gr:D.par.getD gone gone=gone:=by
  rcases Nat.le_total (aE D.par a) (aE D.par b) with l |l
  .rw[hg,Nat.max_eq_right l];exact wO.1
  .rw[hg,Nat.max_eq_left l];exact rB.1
 have j_:kept≠gone:=by rw[hk,hg];exact CV hq
 obtain⟨⟨ak,xk⟩,gk⟩:=J.key kept Za kr
 obtain⟨⟨ag,xg⟩,gg⟩:=J.key gone Zb gr
 have mk:=eG gk
 have tO:=eG gg
 refine cg ?_
 show ww
 refine kC (.tup _) (eR (aN (eR (aN (kH ?_)))))
 refine fb (dF (λω=>rfl) ?_)
 refine aS at2 ?_
 refine⟨_,ln (.ref L9),dI,?_⟩
 show ww
 refine bR ?_
 refine bq (.builtin "len") ?_
 show ww
 refine aS at2 ?_
 show ww
 obtain⟨l3,KE,KG⟩:=Y9
 refine dL (.inr (.ref KE)) (by rw[KG];exact Nat.lt_of_le_of_lt J.ne (by decide)) ?_
 show ww
 refine mq ?_
 show ww
 refine uH L9 (by rw[Ej];exact t3 (Nat.lt_trans J.nf (by decide))) ⟨fJ,?_⟩
 refine gn (aA a_ h.fo _) λcn e3=>?_
 have k3: ∀c o,a_ c=some o->c≠h.fo->cn c=some o:=λc o hc ne=>e3▸aP hc ne
 have rA:=k3 _ _ at2 X.d2
 have L_:=k3 _ _ Ek X.f2.symm
 have Ma:=k3 _ _ Y8 X.f3.symm
 have Zc:tP h.fo (D.nf+1) cn:=⟨_,e3▸bB _ _ _,by rw[bQ,Ej];rfl⟩
 have Mb: ∀p∈D.aa,cn p.2.1=some (.list (p.2.2.map am)):=λp hp=>k3 _ _ (Y' p hp) λq=>(T.da p hp).1 (q▸HA.qN)
 refine fb (dF (λω=>rfl) ?_)
 refine aS rA ?_
 refine⟨_,xZ (.ref Ma),dI,?_⟩
 show ww
 refine bh ?_
 refine aS rA ?_
 show ww
 have Mc:D.aa.length<1000:=Nat.lt_trans J.aa (by decide)
 refine ge fq rfl (.ref L_) (λω ω=>rfl) T.eh gg ?_
 show ww
 refine x0 Ma (.ref (Mb _ tO)) (by rw[ar,ar];exact Nat.le_trans (Nat.add_le_add (Nat.le_of_lt J.wl) (Nat.le_of_lt (J.ab _ tO))) (by rw[eZ];decide)) ⟨fJ,?_⟩
 rw[<- bX]
 refine gn (aA cn h.wa _) λeO e4=>?_
 have k4: ∀c o,cn c=some o->c≠h.wa->eO c=some o:=λc o hc ne=>e4▸aP hc ne
 have tN:=k4 _ _ rA X.d5
 have El:=k4 _ _ L_ X.a1
 have Zd:eO h.wa=_:=e4▸bB _ _ _
 have Ze: ∀p∈D.aa,eO p.2.1=some (.list (p.2.2.map am)):=λp hp=>k4 _ _ (Mb p hp) λq=>(T.da p hp).1 (q▸HA.lK)
 refine cg (bR (bh ?_))
 refine aS tN ?_
 show ww
 refine ge fq rfl (.ref El) (λω ω=>rfl) T.eh gk ?_
 refine dF (λω=>rfl) ?_
 refine aS tN ?_
 refine⟨_,Uy (.ref El),dI,?_⟩
 show ww
 refine PU rfl El T.eh Mc gg ?_
 refine gn (aA eO h.av _) λeY e5=>?_
 have k5: ∀c o,eO c=some o->c≠h.av->eY c=some o:=λc o hc ne=>e5▸aP hc ne
 have Em:=k5 _ _ tN X.d4
 have Md:eY h.av=_:=e5▸bB _ _ _
 have En: ∀p∈D.aa,eY p.2.1=some (.list (p.2.2.map am)):=λp hp=>k5 _ _ (Ze p hp) λq=>(T.da p hp).1 (q▸HA.iF)
 refine Pv (.ref (En _ mk)) (.ref (En _ tO)) (by rw[ar,ar];exact Nat.le_trans (Nat.add_le_add (Nat.le_of_lt (J.ab _ mk)) (Nat.le_of_lt (J.ab _ tO))) (by rw[eZ];decide)) λc hc=>?_
 rw[<- bX]
 have tf:=Bx gone D.aa
 have KH:((gU gone D.aa).map (·.1)).Nodup:=(tf.map _).nodup T.eh
 have Xj:σ c=none:=by
  have h4:=(kw (e5▸hc)).2
  have h3:=(kw (e4▸h4)).2
  have h2:=(kw (e3▸h3)).2
  exact(kw (e1▸kb2.none h2 (U2.fresh h2))).2
 refine o5 fq (f:=λp:Addr×ae Nat=>AV.raw (.ref p.1)) (λω ω ω ω=>rfl) ?_
 have Zf:=aP (o':=AO.list ((xk++xg).map am)) Em (bp Em hc)
 have Zg:=aP (o':=AO.list ((xk++xg).map am)) Md (bp Md hc)
 refine aS Zf ?_
 show ww
 refine⟨_,_,kept,(c,xk++xg),rfl,rfl,rfl,Zg,KH,Nat.lt_of_le_of_lt tf.length_le Mc,?_⟩
 refine gn (aA (aA eY c _) h.av _) λlR e7=>?_
 refine bC (e_bool ?_)
 refine q2 hq kept gone lk lg ak xk ag xg c lR hk hg kU kW gk gg ?_ ?_
 .have K: ∀x o,eY x=some o->x≠h.av->lR x=some o:=λx o e ne=>e7▸aP (aP e (bp e hc)) ne
  have K5: ∀x o,a_ x=some o->x≠h.fo->x≠h.wa->x≠h.av->eY x=some o:=λx o e n1 n2 n3=>k5 _ _ (k4 _ _ (k3 _ _ e n1) n2) n3
  have K7: ∀x o,a_ x=some o->x∉h.six->lR x=some o:=λx o e n=>K _ _ (K5 _ _ e (λq=>n (q▸HA.qN)) (λq=>n (q▸HA.lK)) (λq=>n (q▸HA.iF))) (λq=>n (q▸HA.iF))
  obtain⟨f1,f2,f3,f4⟩:=T.fresh Xj
  have mem: ∀p∈bH kept (c,xk++xg) (gU gone D.aa),p=(kept,(c,xk++xg))\/p∈D.aa:=λp hp=>(iT hp).imp id λq=>tf.subset q
  refine⟨K _ _ Em X.d4,Y_.keep λx hx o e=>K7 x o e (T.db x hx),⟨mg++[.tup [am kept,am gone]],?_,by rw[bQ,tQ];rfl⟩,⟨l3,K _ _ (K5 _ _ KE X.e1 X.e4 X.e3) X.e3,KG⟩,?_,K _ _ (K5 _ _ Y7 X.f1.symm X.k2 X.k1) X.k1,e7▸bB _ _ _,λp hp=>?_,K _ _ (k5 _ _ Zd X.a1.symm) X.a1.symm,T.six,T.mH,T.db,T.du,λp hp=>?_,?_,kE KH⟩
  .have k: ∀x∈h.u.fp D.la,∀o,a_ x=some o->lR x=some o:=λx hx o e=>K7 x o e (du x hx).1
   exact⟨k _ (.head _) _ U2.at_,k _ (.tail _ (.head _)) _ U2.ab,k _ (.tail _ (.tail _ (.head _))) _ U2.lo,k _ (.tail _ (.tail _ (.tail _ (.head _)))) _ U2.me,λi a l h1 h2=>k _ (.tail _ (.tail _ (.tail _ (.tail _ (cO h1))))) _ (U2.each i a l h1 h2),U2.len,U2.bO⟩
  .obtain⟨l,x,y⟩:=Zc
   exact⟨l,K _ _ (k5 _ _ (k4 _ _ x X.f3) X.f2) X.f2,y⟩
  .rcases mem p hp with rfl |hp
   .exact e7▸aP (bB _ _ _) λq:c=h.av=>f1 (q▸HA.iF)
   .exact K _ _ (En p hp) λq=>(T.da p hp).1 (q▸HA.iF)
  .rcases mem p hp with rfl |hp
   .exact⟨f1,f2,f3⟩
   .exact T.da p hp
  .exact Hl (λq:Addr×ae Nat=>q.1) kept (c,xk++xg) ((tf.map _).nodup T.anew) λp hp=>f4 p (tf.subset hp)
 .intro x o hx nx
  have n6:x∉h.six:=λq=>nx (.inl q)
  have nu:x∉h.u.fp D.la:=λq=>nx (.inr (.inr (.inl q)))
  have s2:=kb2 _ _ (k1 _ _ hx λq=>n6 (q▸HA.nU)) nu
  have s5:=k5 _ _ (k4 _ _ (k3 _ _ s2 λq=>n6 (q▸HA.qN)) λq=>n6 (q▸HA.lK)) λq=>n6 (q▸HA.iF)
  refine⟨e7▸aP (aP s5 (bp s5 hc)) λq=>n6 (q▸HA.iF),λq=>?_⟩
  rcases q with q |q |q |⟨p,hp,q⟩
  .exact n6 q
  .exact nx (.inr (.inl q))
  .exact nu q
  .rcases iT hp with rfl |hp
   .exact bp s5 hc q.symm
   .exact nx (.inr (.inr (.inr ⟨p,tf.subset hp,q⟩)))
end
noncomputable def Tree.ev{L:Type}(M:Nat)(ρ:L->Nat):Tree L->Nat
 | .lf i=>ρ i
 | .ng a=>(M - a.ev M ρ)%M
 | .ad a b=>(a.ev M ρ+b.ev M ρ)%M
 | .ml a b=>(a.ev M ρ*b.ev M ρ)%M
noncomputable def gI(M k:Nat):Lf->Nat
 | .d0=>0 | .d1=>1%M | .d2=>2%M | .d3=>3%M | .d4=>4%M | .vx=>k
def ej(M:Nat)(t u:aF):Prop:= ∀k,k<M->t.ev M (gI M k)=u.ev M (gI M k)
theorem ej.refl(t:aF):ej M t t:=λω ω=>rfl
theorem ej.symm{M:Nat}{t u:aF}(h:ej M t u):ej M u t:=λk hk=>(h k hk).symm
theorem ej.trans{M:Nat}{t u v:aF}(h:ej M t u)(g:ej M u v):ej M t v:=λk hk=>(h k hk).trans (g k hk)
theorem ej.sh{T U:Nat->aF}: ∀(s:Nd),(∀a∈s.kids,ej M (T a) (U a))->ej M (s.map T).tm (s.map U).tm
 | .lf i,_=> .refl _
 | .ng a,h=>λk hk=>show(M - (T a).ev M _)%M=(M - (U a).ev M _)%M by rw[h a (.head _) k hk]
 | .ad a b,h=>λk hk=>show((T a).ev M _+(T b).ev M _)%M=((U a).ev M _+(U b).ev M _)%M by rw[h a (.head _) k hk,h b (.tail _ (.head _)) k hk]
 | .ml a b,h=>λk hk=>show((T a).ev M _*(T b).ev M _)%M=((U a).ev M _*(U b).ev M _)%M by rw[h a (.head _) k hk,h b (.tail _ (.head _)) k hk]
section
variable{par:ae Nat}{kept gone:Nat}
theorem si(hg:gone<par.length)(i:Nat):(par.set gone kept).getD i i=if i=gone then kept else par.getD i i:=by
 rw[ip,ip]
 by_cases e:i=gone
 .subst e;rw[if_pos rfl,An hg];rfl
 .rw[aK e,As λq=>e q.symm]
theorem Hm(hp:iD par)(hg:gone<par.length)(hk:kept<=gone):iD (par.set gone kept):=λi=>by
 rw[si hg]
 by_cases e:i=gone
 .rw[if_pos e,e];exact hk
 .rw[aK e];exact hp i
theorem RZ(hp:iD par)(hg:gone<par.length)(hk:kept<gone)(kr:par.getD kept kept=kept)(gr:par.getD gone gone=gone): ∀i,aE (par.set gone kept) i=if aE par i=gone then kept else aE par i:=by
 have cZ:=Hm hp hg (Nat.le_of_lt hk)
 have Zh:(par.set gone kept).getD kept kept=kept:=by rw[si hg,aK (Nat.ne_of_lt hk)];exact kr
 intro i
 induction i using Nat.strongRecOn with
 |_ i ih=>
  by_cases e:i=gone
  .subst e
   rw[kt gr,if_pos rfl,<- uB cZ,si hg,if_pos rfl,kt Zh]
  .have q:=si (kept:=kept) hg i
   rw[aK e] at q
   by_cases e2:par.getD i i=i
   .rw[kt e2,aK e,kt (q.trans e2)]
   .rw[<- uB cZ,q,ih _ (Nat.lt_of_le_of_ne (hp i) e2),uB hp]
theorem GX{a:Nat}:a∈dJ par↔a<par.length/\par.getD a a=a:=by
 unfold dJ
 rw[rV,gL]
 exact⟨λh=>⟨h.1,k9 h.2⟩,λh=>⟨h.1,decide_eq_true h.2⟩⟩
theorem R8:(dJ par).Nodup:=xt.filter _
theorem QF(hg:gone<par.length)(j_:kept≠gone)(gr:par.getD gone gone=gone):(dJ (par.set gone kept)).length+1=(dJ par).length:=by
 have e:dJ (par.set gone kept)=(dJ par).erase gone:=by
  rw[ae.Nodup.erase_eq_filter R8]
  unfold dJ
  rw[ae.filter_filter,AD]
  refine N2 λa ha=>?_
  rw[si hg]
  by_cases e:a=gone
  .subst e;rw[if_pos rfl,cu j_];simp
  .rw[aK e];simp[e]
 have:=Ak (GX.mpr ⟨hg,gr⟩)
 have pos:=Al (GX.mpr ⟨hg,gr⟩)
 rw[e,this]
 exact Nat.sub_add_cancel pos
theorem xQ(h:par.length<=i):par.getD i i=i:=by rw[ip,Ap h];rfl
theorem uN(i:Nat):(par++[par.length]).getD i i=par.getD i i:=by
 by_cases h:i<par.length
 .rw[ip,mZ h,<- ip]
 .rw[xQ (Nat.le_of_not_lt h),ip,oo (Nat.le_of_not_lt h)]
  by_cases e:i=par.length
  .subst e;rw[Nat.sub_self];rfl
  .have:1<=i - par.length:=Nat.sub_pos_of_lt (Nat.lt_of_le_of_ne (Nat.le_of_not_lt h) λq=>e q.symm)
   rw[Ap this];rfl
theorem QG:(dJ (par++[par.length])).length=(dJ par).length+1:=by
 have e:dJ (par++[par.length])=dJ par++[par.length]:=by
  unfold dJ
  rw[bQ,Fh,Ot,Fu]
  congr 1
  .exact N2 λa ha=>by rw[uN]
  .rw[Nf (by rw[uN,xQ (Nat.le_refl _)];exact decide_eq_true rfl),OB]
 rw[e,bQ];rfl
theorem GY: ∀k i,lC (par++[par.length]) k i=lC par k i
 |0,_=>rfl
 |k+1,i=>by rw[r5,r5,uN,GY k]
theorem uO(i:Nat):aE (par++[par.length]) i=aE par i:=GY i i
theorem Hn(hp:iD par):iD (par++[par.length]):=λi=>by rw[uN];exact hp i
theorem QH(h:par.length<=i):aE par i=i:=kt (xQ h)
theorem QI(hp:iD par)(i:Nat):aE par (aE par i)=aE par i:=kt (nF hp i).1
theorem kF(hp:iD par)(h:i<par.length):aE par i<par.length:=Nat.lt_of_le_of_lt (nF hp i).2 h
end
theorem nt: ∀(n:Nat) {l:ae Nat},l.Nodup->(∀x∈l,x<n)->l.length<=n
 |0,[],_,_=>Nat.le_refl _
 |0,x::_,_,h=>ax (h x (.head _)) (Nat.not_lt_zero _)
 |n+1,l,hn,h=>by
  have h2:(l.erase n).length<=n:=nt n (hn.erase _) λx hx=>by
   have:=(ae.Nodup.mem_erase_iff hn).mp hx
   exact Nat.lt_of_le_of_ne (Nat.le_of_lt_succ (h x this.2)) this.1
  by_cases q:n∈l
  .have:=Ak q
   have pos:=Al q
   rw[this] at h2
   exact Nat.le_add_of_sub_le h2
  .rw[ae.erase_of_not_mem q] at h2;exact Nat.le_succ_of_le h2
noncomputable abbrev t0:aF:= .lf .d0
noncomputable abbrev f9(ts:ae aF)(s:Nd):aF:=(s.map λa=>ts.getD a t0).tm
noncomputable def HD.nc(D:HD):Nat:=(dJ D.par).length
noncomputable def HD.mu(D:HD):Nat:=D.wl.length+100*D.nc
noncomputable def HD.gY(D:HD):Nat:=D.kn.length+D.mu
noncomputable def fu(aa:ae (Nat×(Addr×ae Nat))):Nat:=(aa.map λp=>p.2.2.length).sum
structure bU(M K:Nat)(D:HD)(ts:ae aF):Prop where
 pt:D.par.length=D.nodes.length
 tt:ts.length=D.nodes.length
 ll:D.bn.length=D.par.length
 down:iD D.par
 nd:D.nodes.Nodup
 tree: ∀(n:Nat) (s:Nd),D.nodes[n]? =some s->(∀a∈s.kids,a<n)/\ts[n]? =some (f9 ts s)
 sound: ∀i,i<D.par.length->ej M (ts.getD (aE D.par i) t0) (ts.getD i t0)
 kh: ∀c l,D.bn[c]? =some l->l.Nodup/\ ∀m∈l,m<D.par.length/\aE D.par m=aE D.par c
 has: ∀m,m<D.par.length-> ∃l,D.bn[aE D.par m]? =some l/\m∈l
 knd:(D.kn.map (·.1)).Nodup
 kn: ∀p∈D.kn,p.2<D.par.length/\(∀a∈p.1.kids,a<D.par.length)/\ej M (ts.getD p.2 t0) (f9 ts p.1)
 eh:(D.aa.map (·.1)).Nodup
 ak: ∀c,c∈D.aa.map (·.1)↔c<D.par.length/\D.par.getD c c=c
 ab: ∀p∈D.aa,∀k∈p.2.2,k<D.par.length
 gZ:fu D.aa<=2*D.par.length
 wl: ∀k∈D.wl,k<D.par.length
 cf:D.nf+D.nc=D.par.length
 cm:D.nm+D.nc=D.par.length
 ce:D.ne+D.nc<=D.par.length+K
 cp:D.gY<=101*D.par.length
theorem BV{p:Nat×(Addr×ae Nat)}(h:p∈aa):p.2.2.length<=fu aa:=by
 induction aa with
 |nil=>cases h
 |cons x r ih=>
  unfold fu;rw[eQ,p0]
  rcases aY.mp h with rfl |h
  .exact Nat.le_add_right _ _
  .exact Nat.le_trans (ih h) (Nat.le_add_left _ _)
theorem uP(p:Nat×(Addr×ae Nat))(r:ae (Nat×(Addr×ae Nat))):fu (p::r)=p.2.2.length+fu r:=by
 unfold fu;rw[eQ,p0]
theorem TL{v:Addr×ae Nat}(h:aX k aa=some v):fu (gU k aa)+v.2.length=fu aa:=by
 induction aa with
 |nil=>cases h
 |cons p r ih=>
  rw[dS] at h
  rw[uC,uP]
  by_cases e:p.1=k
  .rw[if_pos e] at h ⊢;cases h;exact Nat.add_comm _ _
  .rw[aK e] at h ⊢
   rw[uP,Nat.add_assoc,ih h]
theorem Ie{v w:Addr×ae Nat}(h:aX k aa=some v):fu (bH k w aa)+v.2.length=fu aa+w.2.length:=by
 induction aa with
 |nil=>cases h
 |cons p r ih=>
  rw[dS] at h
  rw[li,uP]
  by_cases e:p.1=k
  .rw[if_pos e] at h ⊢;cases h;rw[uP];simp only;lia
  .rw[aK e] at h ⊢
   rw[uP,Nat.add_assoc,ih h,Nat.add_assoc]
theorem QJ{κ:Type}{k j:κ}{l:ae (κ×β)}(hn:(l.map (·.1)).Nodup):j∈(gU k l).map (·.1)↔j≠k/\j∈l.map (·.1):=by
 induction l with
 |nil=>exact⟨λh=>(nomatch h),λh=>h.2⟩
 |cons p r ih=>
  rw[eQ,fF] at hn
  rw[uC,eQ,aY]
  by_cases e:p.1=k
  .rw[if_pos e]
   exact⟨λh=>⟨λq=>hn.1 (by rw[e,<- q];exact h),.inr h⟩,λh=>h.2.resolve_left λq=>h.1 (q.trans e)⟩
  .rw[aK e,eQ,aY,ih hn.2]
   exact⟨λh=>h.elim (λq=>⟨λq'=>e (q.symm.trans q'),.inl q⟩) λq=>⟨q.1,.inr q.2⟩,λh=>h.2.imp id λq=>⟨h.1,q⟩⟩
section
variable{M K:Nat}{D:HD}{ts:ae aF}
theorem bU.hz(O:bU M K D ts)(hn:D.nodes.length<=50):HZ D:=⟨hn,Nat.le_of_eq O.pt,O.ll,O.down⟩
theorem bU.hj(O:bU M K D ts)(hn:D.nodes.length<=40)(hK:K<=9000000):HJ D:=by
 have hp:D.par.length<=40:=O.pt▸hn
 have c1:=O.cf;have c2:=O.cm;have c3:=O.ce;have c4:=O.cp
 unfold HD.gY HD.mu at c4
 refine⟨by lia,by lia,by lia,λl hl=>?_,by lia,λp cZ=>?_,?_,λc hc hr=>?_⟩
 .obtain⟨i,hi,rfl⟩:=NJ hl
  obtain⟨h1,h2⟩:=O.kh i _ (cL hi)
  exact Nat.le_trans (nt _ h1 λx hx=>(h2 x hx).1) (Nat.le_trans hp (by decide))
 .exact Nat.lt_of_le_of_lt (Nat.le_trans (BV cZ) O.gZ) (by lia)
 .have:=nt D.par.length O.eh λx hx=>((O.ak x).mp hx).1
  rw[ar] at this
  exact Nat.lt_of_le_of_lt (Nat.le_trans this hp) (by decide)
 .cases q:aX c D.aa with
  |some v=>exact⟨v,rfl⟩
  |none=>exact ax ((O.ak c).mpr ⟨hc,hr⟩) (lm.mp q)
theorem bU.vD(O:bU M K D ts):bU M (K+1) D.vD ts:=
 ⟨O.pt,O.tt,O.ll,O.down,O.nd,O.tree,O.sound,O.kh,O.has,O.knd,O.kn,O.eh,O.ak,O.ab,O.gZ,O.wl,O.cf,O.cm,by have:=O.ce;show D.ne+1+D.nc<=D.par.length+(K+1);lia,O.cp⟩
theorem bU.joined(O:bU M K D ts)(hn:D.nodes.length<=50){a b:Nat}(ha:a<D.par.length)(hb:b<D.par.length)(cj:aE D.par a≠aE D.par b)(he:ej M (ts.getD a t0) (ts.getD b t0)){kept gone:Nat}{lk lg xk xg:ae Nat}{ak ag c:Addr}
  (hk:kept=min (aE D.par a) (aE D.par b)) (hg:gone=max (aE D.par a) (aE D.par b)) (kU:D.bn[kept]? =some lk) (kW:D.bn[gone]? =some lg) (gk:aX kept D.aa=some (ak,xk)) (gg:aX gone D.aa=some (ag,xg)):
  bU M K (D.joined kept gone lk lg xk xg c) ts/\(D.joined kept gone lk lg xk xg c).nc+1=D.nc/\(D.joined kept gone lk lg xk xg c).mu<=D.mu:=by
 have hp:=O.down
 have j_:kept<gone:=by rw[hk,hg];exact Nat.lt_of_le_of_ne (Nat.le_trans (Nat.min_le_left _ _) (Nat.le_max_left _ _)) (CV cj)
 have oh:gone<D.par.length:=hg▸Nat.max_lt.mpr ⟨kF hp ha,kF hp hb⟩
 have gW:=Nat.lt_trans j_ oh
 have kr:D.par.getD kept kept=kept:=((O.ak kept).mp (aU.mpr ⟨_,eG gk,rfl⟩)).2
 have gr:D.par.getD gone gone=gone:=((O.ak gone).mp (aU.mpr ⟨_,eG gg,rfl⟩)).2
 have R:=RZ (kept:=kept) hp oh j_ kr gr
 have N:=QF (kept:=kept) oh (Nat.ne_of_lt j_) gr
 have L:(D.par.set gone kept).length=D.par.length:=AD
 have Zi:ej M (ts.getD kept t0) (ts.getD gone t0):=by
  have x:=(O.sound a ha).trans (he.trans (O.sound b hb).symm)
  rcases Nat.le_total (aE D.par a) (aE D.par b) with l |l
  .rw[hk,hg,Nat.min_eq_left l,Nat.max_eq_right l];exact x
  .rw[hk,hg,Nat.min_eq_right l,Nat.max_eq_left l];exact x.symm
 have Me:aX kept (gU gone D.aa)=some (ak,xk):=by rw[RY (Nat.ne_of_lt j_)];exact gk
 have T1:=TL gg
 have T2:=Ie (w:=(c,xk++xg)) Me
 have T3:fu (bH kept (c,xk++xg) (gU gone D.aa))=fu D.aa:=by
  simp only[bQ] at T1 T2;lia
 have dk:((gU gone D.aa).map (·.1)).Nodup:=((Bx gone D.aa).map _).nodup O.eh
 have mk:kept∈(gU gone D.aa).map (·.1):=aU.mpr ⟨_,eG Me,rfl⟩
 have RR: ∀i,aE D.par i=gone->aE (D.par.set gone kept) i=kept:=λi h=>by rw[R,if_pos h]
 have RN: ∀i,aE D.par i≠gone->aE (D.par.set gone kept) i=aE D.par i:=λi h=>by rw[R,aK h]
 have rk:aE D.par kept=kept:=kt kr
 have rg:aE D.par gone=gone:=kt gr
 have cf:=O.cf;have cm:=O.cm;have ce:=O.ce;have cp:=O.cp
 have P:(D.joined kept gone lk lg xk xg c).mu<=D.mu:=by
  have xgl:xg.length<=fu D.aa:=BV (eG gg)
  have tt:=O.gZ
  have pt:=O.pt
  show(D.wl++xg).length+100*(dJ (D.par.set gone kept)).length<=D.wl.length+100*(dJ D.par).length
  rw[bQ];lia
 refine⟨⟨L.trans O.pt,O.tt,?_,Hm hp oh (Nat.le_of_lt j_),O.nd,O.tree,λi hi=>?_,λx l hl=>?_,λm hm=>?_,O.knd,λp cZ=>?_,kE dk,λx=>?_,λp cZ k bJ=>?_,?_,λk bJ=>?_,?_,?_,?_,?_⟩,N,?_⟩
 .show(D.bn.set kept (lk++lg)).length=_
  rw[AD];exact O.ll.trans L.symm
 .have hi:i<D.par.length:=L▸hi
  show ej M (ts.getD (aE (D.par.set gone kept) i) t0) _
  by_cases q:aE D.par i=gone
  .rw[RR i q];exact Zi.trans (q▸O.sound i hi)
  .rw[RN i q];exact O.sound i hi
 .show l.Nodup/\ ∀m∈l,m<(D.par.set gone kept).length/\aE (D.par.set gone kept) m=aE (D.par.set gone kept) x
  rw[L]
  have hl:(D.bn.set kept (lk++lg))[x]? =some l:=hl
  by_cases q:x=kept
  .subst q
   rw[An (O.ll.symm▸gW)] at hl
   cases hl
   obtain⟨n1,m1⟩:=O.kh _ _ kU
   obtain⟨n2,m2⟩:=O.kh _ _ kW
   rw[rk] at m1;rw[rg] at m2
   rw[RN x (by rw[rk];exact Nat.ne_of_lt j_),rk]
   refine⟨ot.mpr ⟨n1,n2,λi hi j hj e=>Nat.ne_of_lt j_ ?_⟩,λm hm=>?_⟩
   .rw[<- (m1 i hi).2,e,(m2 j hj).2]
   .rcases cy.mp hm with h |h
    .exact⟨(m1 m h).1,by rw[RN m (by rw[(m1 m h).2];exact Nat.ne_of_lt j_),(m1 m h).2]⟩
    .exact⟨(m2 m h).1,RR m (m2 m h).2⟩
  .rw[As λe=>q e.symm] at hl
   obtain⟨n1,m1⟩:=O.kh _ _ hl
   exact⟨n1,λm hm=>⟨(m1 m hm).1,by rw[R,R,(m1 m hm).2]⟩⟩
 .show ∃l,(D.bn.set kept (lk++lg))[aE (D.par.set gone kept) m]? =some l/\m∈l
  obtain⟨l,h1,h2⟩:=O.has m (L▸hm)
  have hs:=An (l:=D.bn) (a:=lk++lg) (O.ll.symm▸gW:kept<D.bn.length)
  by_cases q:aE D.par m=gone
  .rw[RR m q,hs]
   rw[q,kW] at h1;cases h1
   exact⟨_,rfl,iN _ h2⟩
  .rw[RN m q]
   by_cases q2:aE D.par m=kept
   .rw[q2,hs]
    rw[q2,kU] at h1;cases h1
    exact⟨_,rfl,gc _ h2⟩
   .rw[As λe=>q2 e.symm];exact⟨l,h1,h2⟩
 .obtain⟨h1,h2,h3⟩:=O.kn p cZ
  exact⟨L.symm▸h1,λa ha=>L.symm▸h2 a ha,h3⟩
 .show x∈(bH kept (c,xk++xg) (gU gone D.aa)).map (·.1)↔x<(D.par.set gone kept).length/\(D.par.set gone kept).getD x x=x
  rw[r8 mk,QJ O.eh,O.ak,L,si oh]
  by_cases q:x=gone
  .subst q;rw[if_pos rfl];exact⟨λh=>ax rfl h.1,λh=>ax h.2 (Nat.ne_of_lt j_)⟩
  .rw[aK q];exact⟨λh=>h.2,λh=>⟨q,h⟩⟩
 .show k<(D.par.set gone kept).length
  rw[L]
  rcases iT cZ with rfl |cZ
  .rcases cy.mp bJ with h |h
   .exact O.ab _ (eG gk) k h
   .exact O.ab _ (eG gg) k h
  .exact O.ab _ ((Bx gone D.aa).subset cZ) k bJ
 .show fu (bH kept (c,xk++xg) (gU gone D.aa))<=2*(D.par.set gone kept).length
  rw[T3,L];exact O.gZ
 .show k<(D.par.set gone kept).length
  rw[L]
  rcases cy.mp bJ with h |h
  .exact O.wl k h
  .exact O.ab _ (eG gg) k h
 .show D.nf+1+(dJ (D.par.set gone kept)).length=(D.par.set gone kept).length
  unfold HD.nc at cf;lia
 .show D.nm+1+(dJ (D.par.set gone kept)).length=(D.par.set gone kept).length
  unfold HD.nc at cm;lia
 .show D.ne+1+(dJ (D.par.set gone kept)).length<=(D.par.set gone kept).length+K
  unfold HD.nc at ce;lia
 .exact Nat.le_trans (Nat.add_le_add_left P D.kn.length) (L.symm▸cp)
 .exact P
end
section
variable{n:Nat}{af:Env}{m:au}{h:HA}{D:HD}{σ:ah}{Q:AV->ah->Prop}{M K:Nat}{ts:ae aF}
noncomputable def HD.keyed(D:HD)(k:Nd)(v:Nat):HD:=⟨D.nodes,D.par,D.bn,D.la,D.ne,D.nf,D.nm,bH k v D.kn,D.aa,D.wl⟩
theorem HS.keyed(T:HS h D σ){k:Nd}{v:Nat}:HS h (D.keyed k v) (aA σ h.kn (.dict (aZ dG am (bH k v D.kn))))/\dU h D (D.keyed k v) σ (aA σ h.kn (.dict (aZ dG am (bH k v D.kn)))):=by
 refine gn (aA σ h.kn _) λaw e=>?_
 have X:=HA.apart T.six
 have k: ∀c o,σ c=some o->c≠h.kn->aw c=some o:=λc o hc ne=>e▸aP hc ne
 obtain⟨mg,U,hm⟩:=T.un
 obtain⟨l1,h1,kc⟩:=T.ed
 obtain⟨l2,h2,kf⟩:=T.fo
 have ku: ∀c∈h.u.fp D.la,∀o,σ c=some o->aw c=some o:=λc hc o e=>k c o e λq=>(T.du c hc).1 (q▸HA.pk)
 refine⟨⟨k _ _ T.at_ X.d3,T.bk.keep λc hc o e=>k c o e λq=>T.db c hc (q▸HA.pk),⟨mg,⟨ku _ (.head _) _ U.at_,ku _ (.tail _ (.head _)) _ U.ab,ku _ (.tail _ (.tail _ (.head _))) _ U.lo,ku _ (.tail _ (.tail _ (.tail _ (.head _)))) _ U.me,λi a l h1 h2=>ku _ (.tail _ (.tail _ (.tail _ (.tail _ (cO h1))))) _ (U.each i a l h1 h2),U.len,U.bO⟩,hm⟩,
  ⟨l1,k _ _ h1 X.e2,kc⟩,⟨l2,k _ _ h2 X.f1,kf⟩,e▸bB _ _ _,k _ _ T.av X.k1.symm,λp hp=>k _ _ (T.each p hp) λq=>(T.da p hp).1 (q▸HA.pk),k _ _ T.wa X.k2.symm,T.six,T.mH,T.db,T.du,T.da,T.anew,T.eh⟩,λc o hc hx=>⟨k c o hc λq=>hx (.inl (q▸HA.pk)),hx⟩⟩
theorem tm_at(O:bU M K D ts){n:Nat}{s:Nd}(hs:D.nodes[n]? =some s):ts.getD n t0=f9 ts s:=by
 rw[ip,(O.tree n s hs).2];rfl
theorem yB(O:bU M K D ts){n:Nat}{s:Nd}(hs:D.nodes[n]? =some s):n<D.par.length/\ ∀a∈s.kids,a<D.par.length:=by
 have hn:n<D.par.length:=O.pt▸(cV.mp hs).1
 exact⟨hn,λa ha=>Nat.lt_trans ((O.tree n s hs).1 a ha) hn⟩
theorem BW(O:bU M K D ts){s:Nd}(hs: ∀a∈s.kids,a<D.par.length):ej M (f9 ts (s.map (aE D.par))) (f9 ts s):=by
 unfold f9
 rw[Sh.map_map]
 exact ej.sh s λa ha=>O.sound a (hs a ha)
theorem bU.keyed(O:bU M K D ts){n:Nat}{s:Nd}(hs:D.nodes[n]? =some s)(hp:D.gY+1<=101*D.par.length)(hk:aX (s.map (aE D.par)) D.kn=none):bU M K (D.keyed (s.map (aE D.par)) n) ts:=by
 obtain⟨hn,v8⟩:=yB O hs
 refine⟨O.pt,O.tt,O.ll,O.down,O.nd,O.tree,O.sound,O.kh,O.has,kE O.knd,λp cZ=>?_,O.eh,O.ak,O.ab,O.gZ,O.wl,O.cf,O.cm,O.ce,?_⟩
 .rcases iT cZ with rfl |cZ
  .refine⟨hn,λa ha=>?_,?_⟩
   .rw[Sh.uL] at ha
    obtain⟨b,hb,rfl⟩:=aU.mp ha
    exact kF O.down (v8 b hb)
   .rw[tm_at O hs];exact(BW O v8).symm
  .exact O.kn p cZ
 .show(bH _ _ D.kn).length+D.mu<=101*D.par.length
  have:=uM (s.map (aE D.par)) n D.kn
  exact Nat.le_trans (Nat.le_trans (Nat.add_le_add_right this _) (Nat.le_of_eq (Nat.add_right_comm _ _ _))) hp
structure Xk(D D':HD):Prop where
 nodes:D'.nodes=D.nodes
 mu:D'.mu<=D.mu
 gY:D'.gY<=D.gY+1
inductive Wb(M K:Nat)(ts:ae aF)(h:HA)(D:HD)(σ:ah)(k:Nat)(a:AV)(aw:ah):Prop
 |mk (u:Nat) (D1:HD) (e:a=am u) (T:HS h D1 aw) (O:bU M K D1 ts) (F:dU h D D1 σ aw) (n:D1.nodes=D.nodes) (p:D1.par=D.par) (mu:D1.mu=D.mu) (gY:D1.gY<=D.gY+1) (hu:u<D.par.length) (he:ej M (ts.getD u t0) (ts.getD k t0))
theorem Ig(T:HS h D σ)(O:bU M K D ts)(hn:D.nodes.length<=40)(hK:K<=9000000)(hp:D.gY+1<=101*D.par.length){s:Nd}(hs:D.nodes[k]? =some s)
  (q: ∀D' σ',HS h D' σ'->bU M K D' ts->dU h D D' σ σ'->Xk D D'->Q (.raw .none) σ'):aT 12 (.ref 386) [h.self,am k] σ Q:=by
 have Z:=O.hz (Nat.le_trans hn (by decide))
 obtain⟨hk,v8⟩:=yB O hs
 have Zj:D.kn.length<=sizeLine:=by
  have:=O.pt
  rw[eZ]
  unfold HD.gY at hp;lia
 refine eL (S "self") (S "n") ?_
 intro Lo ev mv
 refine cg (dF (λω=>rfl) ?_)
 refine aS T.at_ ?_
 refine⟨_,F7 (.ref T.kn),dI,?_⟩
 show ww
 refine bG 369 ?_
 show ww
 refine bI T.at_ ?_
 show ww
 refine Ic T Z hs v8 ?_
 show ww
 refine cK.mono (Q:=Wb M K ts h D σ k) (Fr v0 (v:=k) rfl rfl T.kn O.knd Zj (λu hu=>?_) λhu=>?_) λa aw R=>?_
 .obtain⟨h1,h2,h3⟩:=O.kn _ (eG hu)
  exact⟨u,D,rfl,T,O,.refl,rfl,rfl,rfl,Nat.le_succ _,h1,h3.trans ((BW O v8).trans (by rw[tm_at O hs];exact .refl _))⟩
 .obtain⟨T1,F1⟩:=T.keyed (k:=s.map (aE D.par)) (v:=k)
  refine⟨k,_,rfl,T1,O.keyed hs hp hu,F1,rfl,rfl,rfl,?_,hk,.refl _⟩
  show(bH _ _ D.kn).length+D.mu<=D.kn.length+D.mu+1
  exact Nat.le_trans (Nat.add_le_add_right (uM _ _ _) _) (Nat.le_of_eq (Nat.add_right_comm _ _ _))
 obtain⟨u,D1,rfl,T1,O1,F1,n1,p1,zO,zc,hu,he⟩:=R
 have pJ:D1.nodes.length<=40:=n1▸hn
 have Z1:=O1.hz (Nat.le_trans pJ (by decide))
 have Eo:u<D1.par.length:=p1▸hu
 have mW:k<D1.par.length:=p1▸hk
 refine aN ?_
 intro mv
 refine gv (bu rfl ?_)
 refine bG 393 ?_
 show ww
 refine bI T1.at_ ?_
 show ww
 refine(oN T1 Z1 Eo ?_).less (by decide)
 refine bG 393 ?_
 show ww
 refine bI T1.at_ ?_
 show ww
 refine(oN T1 Z1 mW ?_).less (by decide)
 refine vM ⟨_,rfl,?_⟩
 by_cases e:aE D1.par u=aE D1.par k
 .refine bL (u8 e) (bE (bE ?_))
  exact q D1 aw T1 O1 F1 ⟨n1,Nat.le_of_eq zO,zc⟩
 refine bS (JU e) (fb ?_)
 refine bG 414 ?_
 show ww
 refine bI T1.at_ ?_
 show ww
 refine e_tuple ?_
 show ww
 refine⟨t2 (n:=1) (by decide),?_⟩
 show ww
 refine Id T1 Z1 (O1.hj pJ hK) Eo mW (λe'=>ax e' e) λω kept gone lk lg ak xk ag xg c a_ CW CY kU kW gk gg T2 F2=>⟨(λa h=>by cases h),bE (bE ?_)⟩
 obtain⟨O2,_,tS⟩:=O1.joined (Nat.le_trans pJ (by decide)) Eo mW e he CW CY kU kW gk gg (c:=c)
 exact q _ a_ T2 O2 (F1.trans F2) ⟨n1,Nat.le_trans tS (Nat.le_of_eq zO),Nat.le_trans (Nat.add_le_add_left tS _) zc⟩
end
section
variable{n:Nat}{af:Env}{m:au}{h:HA}{D:HD}{σ:ah}{Q:AV->ah->Prop}{M K:Nat}{ts:ae aF}
noncomputable def HD.popped(D:HD)(l:ae Nat):HD:=⟨D.nodes,D.par,D.bn,D.la,D.ne,D.nf,D.nm,D.kn,D.aa,l⟩
theorem HS.popped(T:HS h D σ){l:ae Nat}:HS h (D.popped l) (aA σ h.wa (.list (l.map am)))/\dU h D (D.popped l) σ (aA σ h.wa (.list (l.map am))):=by
 refine gn (aA σ h.wa _) λaw e=>?_
 have X:=HA.apart T.six
 have k: ∀c o,σ c=some o->c≠h.wa->aw c=some o:=λc o hc ne=>e▸aP hc ne
 obtain⟨mg,U,hm⟩:=T.un
 obtain⟨l1,h1,kc⟩:=T.ed
 obtain⟨l2,h2,kf⟩:=T.fo
 have ku: ∀c∈h.u.fp D.la,∀o,σ c=some o->aw c=some o:=λc hc o e=>k c o e λq=>(T.du c hc).1 (q▸HA.lK)
 refine⟨⟨k _ _ T.at_ X.d5,T.bk.keep λc hc o e=>k c o e λq=>T.db c hc (q▸HA.lK),⟨mg,⟨ku _ (.head _) _ U.at_,ku _ (.tail _ (.head _)) _ U.ab,ku _ (.tail _ (.tail _ (.head _))) _ U.lo,ku _ (.tail _ (.tail _ (.tail _ (.head _)))) _ U.me,λi a l h1 h2=>ku _ (.tail _ (.tail _ (.tail _ (.tail _ (cO h1))))) _ (U.each i a l h1 h2),U.len,U.bO⟩,hm⟩,
  ⟨l1,k _ _ h1 X.e4,kc⟩,⟨l2,k _ _ h2 X.f3,kf⟩,k _ _ T.kn X.k2,k _ _ T.av X.a1,λp hp=>k _ _ (T.each p hp) λq=>(T.da p hp).1 (q▸HA.lK),e▸bB _ _ _,T.six,T.mH,T.db,T.du,T.da,T.anew,T.eh⟩,λc o hc hx=>⟨k c o hc λq=>hx (.inl (q▸HA.lK)),hx⟩⟩
inductive Xl(M K:Nat)(ts:ae aF)(h:HA)(D:HD)(σ:ah)(k:Nat)(m:au)(aw:ah):Prop
 |mk (D1:HD) (T:HS h D1 aw) (O:bU M K D1 ts) (F:dU h D D1 σ aw) (n:D1.nodes=D.nodes) (mu:D1.mu=k) (gY:D1.gY<=D.gY) (hm:m (S "self")=some h.self)
theorem QK(T:HS h D σ)(O:bU M K D ts)(hn:D.nodes.length<=40)(hK:K<=9000000)
  (q: ∀D' σ',HS h D' σ'->bU M K D' ts->dU h D D' σ σ'->D'.nodes=D.nodes->D'.wl=[]->Q (.raw .none) σ'):aT 15 (.ref 421) [h.self] σ Q:=by
 refine fC (S "self") ?_
 intro Lo ev mv
 refine uK (Xl M K ts h D σ) D.mu ⟨D,T,O,.refl,rfl,rfl,Nat.le_refl _,rfl⟩ λk m' aw I=>?_
 intro Qv
 obtain⟨D1,T1,O1,F1,n1,zO,zc,hm⟩:=I
 have pJ:D1.nodes.length<=40:=n1▸hn
 have wz:D1.wl.length<5000:=(O1.hj pJ hK).wl
 refine bu rfl ?_
 refine bq (.builtin "len") ?_
 show ww
 refine aS T1.at_ ?_
 show ww
 refine dL (.inr (.ref T1.wa)) (by rw[ar];exact Nat.lt_trans wz (by decide)) ?_
 rw[ar]
 show ww
 refine s9 ⟨_,rfl,?_⟩
 rcases Nt D1.wl with e |⟨l,x,e⟩
 .refine bL (by rw[e];rfl) (bE ?_)
  exact q D1 aw T1 O1 F1 n1 e
 .have e:D1.wl=l++[x]:=by rw[e,Nr]
  have hl:D1.wl.length=l.length+1:=by rw[e,bQ];rfl
  refine bS (decide_eq_true (by rw[hl];exact iP.mpr (Nat.succ_pos _))) (fb ?_)
  refine bG 386 ?_
  show ww
  refine bI T1.at_ ?_
  show ww
  refine dF (λω=>rfl) ?_
  refine aS T1.at_ ?_
  have tR:=T1.wa
  rw[e,bX] at tR
  refine⟨_,IP (.ref tR),dI,?_⟩
  show ww
  refine IQ tR (by rw[ar];exact Nat.lt_of_lt_of_le (Nat.lt_of_le_of_lt (Nat.le_succ _) (hl▸wz)) (by rw[eZ];decide)) ?_
  show ww
  obtain⟨T2,F2⟩:=T1.popped (l:=l)
  have hx:x<D1.par.length:=O1.wl x (by rw[e];exact iN _ (.head _))
  have tS:(D1.popped l).mu+1=D1.mu:=by
   show l.length+100*D1.nc+1=D1.wl.length+100*D1.nc
   rw[hl,Nat.add_right_comm]
  have Dq:(D1.popped l).gY+1=D1.gY:=by
   show D1.kn.length+(D1.popped l).mu+1=D1.kn.length+D1.mu
   rw[<- tS,Nat.add_assoc]
  have O2:bU M K (D1.popped l) ts:=⟨O1.pt,O1.tt,O1.ll,O1.down,O1.nd,O1.tree,O1.sound,O1.kh,O1.has,O1.knd,O1.kn,O1.eh,O1.ak,O1.ab,O1.gZ,λy hy=>O1.wl y (by rw[e];exact gc _ hy),O1.cf,O1.cm,O1.ce,Nat.le_trans (Nat.le_succ _) (Nat.le_trans (Nat.le_of_eq Dq) O1.cp)⟩
  have hs:(D1.popped l).nodes[x]? =some (D1.nodes[x]'(O1.pt▸hx)):=cL _
  refine Ig T2 O2 pJ hK (Dq▸O1.cp) hs λD3 cn T3 O3 F3 S3=>⟨fJ,bE ⟨D3.mu,?_,D3,T3,O3,F1.trans (F2.trans F3),S3.nodes.trans n1,rfl,?_,hm⟩⟩
  .exact Nat.lt_of_le_of_lt S3.mu (by rw[<- zO,<- tS];exact Nat.lt_succ_self _)
  .exact Nat.le_trans S3.gY (Nat.le_trans (Nat.le_of_eq Dq) zc)
theorem R9(T:HS h D σ)(O:bU M K D ts)(hn:D.nodes.length<=40)(hK:K<=9000000){a b:Nat}(ha:a<D.par.length)(hb:b<D.par.length)(he:ej M (ts.getD a t0) (ts.getD b t0)){rs:AV}
  (q: ∀r D' σ',HS h D' σ'->bU M (K+1) D' ts->dU h D D' σ σ'->D'.nodes=D.nodes->Q (.raw (.bool r)) σ'):aT 12 (.ref 407) [h.self,am a,am b,rs] σ Q:=by
 have Z:=O.hz (Nat.le_trans hn (by decide))
 refine y_ (S "self") (S "a") (S "b") (S "reason") ?_ (by with_unfolding_all rfl) (by kernel_rfl) λω ω ω ω=>rfl
 intro Lo ev mv
 refine bC ?_
 refine bG 414 ?_
 show ww
 refine bI T.at_ ?_
 show ww
 refine Id T Z (O.hj hn hK) ha hb (λω σ' T' F'=>q _ _ _ T' O.vD F' rfl) λe kept gone lk lg ak xk ag xg c a_ CW CY kU kW gk gg T2 F2=>?_
 obtain⟨O2,_,tS⟩:=O.joined (Nat.le_trans hn (by decide)) ha hb e he CW CY kU kW gk gg (c:=c)
 exact q true _ _ T2 ⟨O2.pt,O2.tt,O2.ll,O2.down,O2.nd,O2.tree,O2.sound,O2.kh,O2.has,O2.knd,O2.kn,O2.eh,O2.ak,O2.ab,O2.gZ,O2.wl,O2.cf,O2.cm,Nat.le_succ_of_le O2.ce,O2.cp⟩ F2 rfl
end
section
theorem R_{κ γ:Type}(g:β->γ){k:κ}{v w:β}{l:ae (κ×β)}(h:aX k l=some v)(hg:g w=g v):(bH k w l).map (λp=>(p.1,g p.2))=l.map λp=>(p.1,g p.2):=by
 induction l with
 |nil=>cases h
 |cons p r ih=>
  rw[dS] at h
  rw[li]
  by_cases e:p.1=k
  .rw[if_pos e] at h ⊢
   rw[eQ,eQ,hg,<- aB.some.inj h]
  .rw[aK e] at h ⊢
   rw[eQ,eQ,ih h]
theorem QL{κ:Type}{k:κ}{v:β}{p:κ×β}{l:ae (κ×β)}(hn:(l.map (·.1)).Nodup)(h:p∈bH k v l):p=(k,v)\/(p∈l/\p.1≠k):=by
 by_cases e:p.1=k
 .have g:=Po (kE hn) h
  rw[l9,if_pos e] at g
  exact .inl (by rw[<- e,aB.some.inj g])
 .exact(iT h).imp id λq=>⟨q,e⟩
theorem QM{f:α->β}{x y:α}{l:ae α}(hn:(l.map f).Nodup)(hx:x∈l)(hy:y∈l)(h:f x=f y):x=y:=by
 induction l with
 |nil=>cases hx
 |cons a r ih=>
  rw[eQ,fF] at hn
  rcases aY.mp hx with rfl |i_<;>rcases aY.mp hy with rfl |lO
  .rfl
  .exact ax (aU.mpr ⟨y,lO,h.symm⟩) hn.1
  .exact ax (aU.mpr ⟨x,i_,h⟩) hn.1
  .exact ih hn.2 i_ lO
variable{n:Nat}{af:Env}{m:au}{h:HA}{D:HD}{σ aw:ah}{Q:AV->ah->Prop}{M K:Nat}{ts:ae aF}
theorem ff.vE{u:UA}(U:ff u par bn la mg σ)(ku: ∀c∈u.fp la,∀o,σ c=some o->aw c=some o):ff u par bn la mg aw:=
 ⟨ku _ (.head _) _ U.at_,ku _ (.tail _ (.head _)) _ U.ab,ku _ (.tail _ (.tail _ (.head _))) _ U.lo,ku _ (.tail _ (.tail _ (.tail _ (.head _)))) _ U.me,λi a l h1 h2=>ku _ (.tail _ (.tail _ (.tail _ (.tail _ (cO h1))))) _ (U.each i a l h1 h2),U.len,U.bO⟩
noncomputable def HD.qz(D:HD)(s:Nd):HD:=⟨D.nodes++[s],D.par,D.bn,D.la,D.ne,D.nf,D.nm,D.kn,D.aa,D.wl⟩
theorem HS.qz(T:HS h D σ){s:Nd}(B:ga h.b (D.nodes++[s]) aw)(k:qq h.b.fp σ aw):HS h (D.qz s) aw/\dU h D (D.qz s) σ aw:=by
 obtain⟨mg,U,hm⟩:=T.un
 obtain⟨l1,h1,kc⟩:=T.ed
 obtain⟨l2,h2,kf⟩:=T.fo
 have k6: ∀c∈h.six,∀o,σ c=some o->aw c=some o:=λc hc o e=>k c o e λq=>T.db c q hc
 refine⟨⟨k6 _ HA.zN _ T.at_,B,⟨mg,U.vE λc hc o e=>k c o e (T.du c hc).2,hm⟩,⟨l1,k6 _ HA.nU _ h1,kc⟩,⟨l2,k6 _ HA.qN _ h2,kf⟩,k6 _ HA.pk _ T.kn,k6 _ HA.iF _ T.av,λp hp=>k _ _ (T.each p hp) (T.da p hp).2.1,k6 _ HA.lK _ T.wa,T.six,T.mH,T.db,T.du,T.da,T.anew,T.eh⟩,
  λc o hc hx=>⟨k c o hc λq=>hx (.inr (.inl q)),hx⟩⟩
noncomputable def HD.made(D:HD)(a:Addr):HD:=⟨D.nodes,D.par++[D.par.length],D.bn++[[D.bn.length]],D.la++[a],D.ne,D.nf,D.nm,D.kn,D.aa,D.wl⟩
theorem HS.made(T:HS h D σ){a:Addr}(ha:σ a=none)(hm:mg.length=D.nm)(U:ff h.u (D.par++[D.par.length]) (D.bn++[[D.bn.length]]) (D.la++[a]) mg aw)(k:qq (h.u.fp D.la) σ aw):HS h (D.made a) aw/\dU h D (D.made a) σ aw:=by
 obtain⟨l1,h1,kc⟩:=T.ed
 obtain⟨l2,h2,kf⟩:=T.fo
 obtain⟨f1,f2,f3,f4⟩:=T.fresh ha
 have k6: ∀c∈h.six,∀o,σ c=some o->aw c=some o:=λc hc o e=>k c o e λq=>(T.du c q).1 hc
 have mem: ∀c,c∈h.u.fp (D.la++[a])↔c∈h.u.fp D.la\/c=a:=λc=>by
  show c∈(h.u.fp D.la)++[a]↔_
  rw[cy,aW]
 refine⟨⟨k6 _ HA.zN _ T.at_,T.bk.keep λc hc o e=>k c o e λq=>(T.du c q).2 hc,⟨mg,U,hm⟩,⟨l1,k6 _ HA.nU _ h1,kc⟩,⟨l2,k6 _ HA.qN _ h2,kf⟩,k6 _ HA.pk _ T.kn,k6 _ HA.iF _ T.av,λp hp=>k _ _ (T.each p hp) (T.da p hp).2.2,k6 _ HA.lK _ T.wa,T.six,T.mH,T.db,λc hc=>?_,λp hp=>?_,T.anew,T.eh⟩,
  λc o hc hx=>⟨k c o hc λq=>hx (.inr (.inr (.inl q))),λq=>hx ?_⟩⟩
 .rcases(mem c).mp hc with q |rfl
  .exact T.du c q
  .exact⟨f1,f2⟩
 .obtain⟨a1,a2,a3⟩:=T.da p hp
  exact⟨a1,a2,λq=>((mem _).mp q).elim a3 (f4 p hp)⟩
 .rcases q with q |q |q |q
  .exact .inl q
  .exact .inr (.inl q)
  .rcases(mem c).mp q with q |rfl
   .exact .inr (.inr (.inl q))
   .rw[ha] at hc;cases hc
  .exact .inr (.inr (.inr q))
noncomputable def HD.mx(D:HD)(aa:ae (Nat×(Addr×ae Nat))):HD:=⟨D.nodes,D.par,D.bn,D.la,D.ne,D.nf,D.nm,D.kn,aa,D.wl⟩
theorem HS.Xm(T:HS h D σ){c:Nat}{a:Addr}{l l':ae Nat}(hc:aX c D.aa=some (a,l)):HS h (D.mx (bH c (a,l') D.aa)) (aA σ a (.list (l'.map am)))/\dU h D (D.mx (bH c (a,l') D.aa)) σ (aA σ a (.list (l'.map am))):=by
 refine gn (aA σ a _) λaw e=>?_
 have mk:=eG hc
 obtain⟨a1,a2,a3⟩:=T.da _ mk
 have k: ∀x o,σ x=some o->x≠a->aw x=some o:=λx o hx ne=>e▸aP hx ne
 obtain⟨mg,U,hm⟩:=T.un
 obtain⟨l1,h1,kc⟩:=T.ed
 obtain⟨l2,h2,kf⟩:=T.fo
 have k6: ∀c∈h.six,∀o,σ c=some o->aw c=some o:=λx hx o e=>k x o e λq=>a1 (q▸hx)
 have mem: ∀p∈bH c (a,l') D.aa,p=(c,(a,l'))\/(p∈D.aa/\p.2.1≠a):=λp hp=>
  (QL T.eh hp).imp id λq=>⟨q.1,λe=>q.2 (congrArg Bo (QM T.anew q.1 mk e))⟩
 have ev:(bH c (a,l') D.aa).map (λp=>(p.1,p.2.1))=D.aa.map λp=>(p.1,p.2.1):=R_ Bo hc rfl
 refine⟨⟨k6 _ HA.zN _ T.at_,T.bk.keep λc hc o e=>k c o e λq=>a2 (q▸hc),⟨mg,U.vE λc hc o e=>k c o e λq=>a3 (q▸hc),hm⟩,⟨l1,k6 _ HA.nU _ h1,kc⟩,⟨l2,k6 _ HA.qN _ h2,kf⟩,k6 _ HA.pk _ T.kn,?_,λp hp=>?_,k6 _ HA.lK _ T.wa,T.six,T.mH,T.db,T.du,λp hp=>?_,?_,kE T.eh⟩,λx o hx hn=>⟨k x o hx λq=>hn (.inr (.inr (.inr ⟨_,mk,q.symm⟩))),λq=>hn ?_⟩⟩
 .have:=k6 _ HA.iF _ T.av
  rw[this]
  have e2:=congrArg (r9 λp:Nat×Addr=>(am p.1,AV.raw (.ref p.2))) ev
  rw[cQ,cQ] at e2
  exact congrArg some (congrArg AO.dict e2.symm)
 .rcases mem p hp with rfl |⟨hp,ne⟩
  .exact e▸bB _ _ _
  .exact k _ _ (T.each p hp) ne
 .rcases mem p hp with rfl |⟨hp,ne⟩
  .exact⟨a1,a2,a3⟩
  .exact T.da p hp
 .have e2:=congrArg (r9 xR) ev
  rw[cQ,cQ] at e2
  show((bH c (a,l') D.aa).map (xR∘λp=>(p.1,p.2.1))).Nodup
  rw[e2];exact T.anew
 .rcases q with q |q |q |⟨p,hp,q⟩
  .exact .inl q
  .exact .inr (.inl q)
  .exact .inr (.inr (.inl q))
  .rcases mem p hp with rfl |⟨hp,ne⟩
   .exact .inr (.inr (.inr ⟨_,mk,q⟩))
   .exact .inr (.inr (.inr ⟨p,hp,q⟩))
end
section
variable{n:Nat}{af:Env}{m:au}{h:HA}{D:HD}{σ aw:ah}{Q:AV->ah->Prop}{M K:Nat}{ts:ae aF}
theorem HS.Xn(T:HS h D σ){c:Addr}(hc:σ c=none)(hk:k∉D.aa.map (·.1)):
  HS h (D.mx (bH k (c,[]) D.aa)) (aA (aA σ c (.list [])) h.av (.dict (aZ am (λp=> .raw (.ref p.1)) (bH k (c,[]) D.aa))))/\dU h D (D.mx (bH k (c,[]) D.aa)) σ (aA (aA σ c (.list [])) h.av (.dict (aZ am (λp=> .raw (.ref p.1)) (bH k (c,[]) D.aa)))):=by
 refine gn (aA _ h.av _) λaw e=>?_
 obtain⟨f1,f2,f3,f4⟩:=T.fresh hc
 have X:=HA.apart T.six
 have kk: ∀x o,σ x=some o->x≠h.av->aw x=some o:=λx o hx ne=>e▸aP (aP hx (bp hx hc)) ne
 obtain⟨mg,U,hm⟩:=T.un
 obtain⟨l1,h1,kc⟩:=T.ed
 obtain⟨l2,h2,kf⟩:=T.fo
 have mem: ∀p∈bH k (c,[]) D.aa,p=(k,(c,[]))\/p∈D.aa:=λp hp=>iT hp
 have Xo:c≠h.av:=λq=>f1 (q▸HA.iF)
 refine⟨⟨kk _ _ T.at_ X.d4,T.bk.keep λc hc o e=>kk c o e λq=>T.db c hc (q▸HA.iF),⟨mg,U.vE λc hc o e=>kk c o e λq=>(T.du c hc).1 (q▸HA.iF),hm⟩,⟨l1,kk _ _ h1 X.e3,kc⟩,⟨l2,kk _ _ h2 X.f2,kf⟩,kk _ _ T.kn X.k1,e▸bB _ _ _,λp hp=>?_,kk _ _ T.wa X.a1.symm,T.six,T.mH,T.db,T.du,λp hp=>?_,Hl (λq:Addr×ae Nat=>q.1) k (c,[]) T.anew f4,kE T.eh⟩,λx o hx hn=>⟨kk x o hx λq=>hn (.inl (q▸HA.iF)),λq=>?_⟩⟩
 .rcases mem p hp with rfl |hp
  .exact e▸aP (bB _ _ _) Xo
  .exact kk _ _ (T.each p hp) λq=>(T.da p hp).1 (q▸HA.iF)
 .rcases mem p hp with rfl |hp
  .exact⟨f1,f2,f3⟩
  .exact T.da p hp
 .rcases q with q |q |q |⟨p,hp,q⟩
  .exact hn (.inl q)
  .exact hn (.inr (.inl q))
  .exact hn (.inr (.inr (.inl q)))
  .rcases mem p hp with rfl |hp
   .exact bp hx hc q.symm
   .exact hn (.inr (.inr (.inr ⟨p,hp,q⟩)))
theorem u9{ts:ae aF}{x:aF}(h:i<ts.length):(ts++[x]).getD i t0=ts.getD i t0:=by
 rw[ip,mZ h,<- ip]
theorem By{ts:ae aF}{x:aF}{s:Nd}(h: ∀a∈s.kids,a<ts.length):f9 (ts++[x]) s=f9 ts s:=by
 unfold f9;rw[Sh.PT s λa ha=>u9 (h a ha)]
theorem KI{a b c:Nat}(h:a+b=c):a+(b+1)=c+1:=by rw[<- Nat.add_assoc,h]
theorem Xp{p q l:Nat}(h:p+q<=101*l):p+(q+100)+1<=101*(l+1):=by lia
theorem bU.added(O:bU M K D ts){s:Nd}(hs:s∉D.nodes)(hk: ∀a∈s.kids,a<D.par.length)(eh:(aa.map (·.1)).Nodup)
  (ak: ∀c,c∈aa.map (·.1)↔c=D.par.length\/c∈D.aa.map (·.1)) (ab: ∀p∈aa,∀k∈p.2.2,k<=D.par.length) (gZ:fu aa<=fu D.aa+2):
  bU M K ⟨D.nodes++[s],D.par++[D.par.length],D.bn++[[D.bn.length]],la,D.ne,D.nf,D.nm,D.kn,aa,D.wl⟩ (ts++[f9 ts s])/\
   HD.gY ⟨D.nodes++[s],D.par++[D.par.length],D.bn++[[D.bn.length]],la,D.ne,D.nf,D.nm,D.kn,aa,D.wl⟩+1<=101*(D.par++[D.par.length]).length:=by
 have L:(D.par++[D.par.length]).length=D.par.length+1:=bQ
 have N:=QG (par:=D.par)
 have tl:ts.length=D.par.length:=O.tt.trans O.pt.symm
 have lt': ∀{i},i<D.par.length->i<ts.length:=λhi=>tl▸hi
 have up: ∀{i},i<D.par.length->i<(D.par++[D.par.length]).length:=λhi=>by rw[L];exact Nat.lt_succ_of_lt hi
 have sp: ∀{i},i<(D.par++[D.par.length]).length->i<D.par.length\/i=D.par.length:=λhi=>by rw[L] at hi;exact(Nat.lt_or_eq_of_le (Nat.le_of_lt_succ hi))
 have rl:aE D.par D.par.length=D.par.length:=QH (Nat.le_refl _)
 have rn: ∀{i},i<D.par.length->aE D.par i≠D.par.length:=λhi=>Nat.ne_of_lt (kF O.down hi)
 have P:D.kn.length+(D.wl.length+100*(dJ (D.par++[D.par.length])).length)+1<=101*(D.par++[D.par.length]).length:=by
  have cp:D.kn.length+(D.wl.length+100*(dJ D.par).length)<=101*D.par.length:=O.cp
  rw[N,L,Nat.mul_succ,<- Nat.add_assoc D.wl.length]
  exact Xp cp
 refine⟨⟨?_,?_,?_,Hn O.down,?_,λi t ht=>?_,λi hi=>?_,λc l hl=>?_,λi hi=>?_,O.knd,λp hp=>?_,eh,λc=>?_,λp hp k bJ=>by show k<(D.par++[D.par.length]).length;rw[L];exact Nat.lt_succ_of_le (ab p hp k bJ),?_,λk bJ=>up (O.wl k bJ),?_,?_,?_,Nat.le_trans (Nat.le_succ _) P⟩,P⟩
 .show(D.par++[D.par.length]).length=(D.nodes++[s]).length
  rw[L,bQ,O.pt];rfl
 .show(ts++[f9 ts s]).length=(D.nodes++[s]).length
  rw[bQ,bQ,O.tt];rfl
 .show(D.bn++[[D.bn.length]]).length=(D.par++[D.par.length]).length
  rw[L,bQ,O.ll];rfl
 .refine ot.mpr ⟨O.nd,fF.mpr ⟨jf,fA⟩,λx hx y hy e=>?_⟩
  rw[aW.mp hy] at e
  exact hs (e▸hx)
 .have ht:(D.nodes++[s])[i]? =some t:=ht
  by_cases q:i<D.nodes.length
  .rw[mZ q] at ht
   obtain⟨h1,h2⟩:=O.tree i t ht
   have hi:i<ts.length:=O.tt▸q
   refine⟨h1,?_⟩
   rw[mZ hi,h2,By λa ha=>Nat.lt_trans (h1 a ha) hi]
  .have hi:i=D.nodes.length:=by
    have:=(cV.mp ht).1
    rw[bQ] at this
    exact Nat.le_antisymm (Nat.le_of_lt_succ this) (Nat.le_of_not_lt q)
   subst hi
   rw[oo (Nat.le_refl _),Nat.sub_self] at ht
   have:s=t:=aB.some.inj ht
   subst this
   refine⟨λa ha=>O.pt▸hk a ha,?_⟩
   rw[oo (Nat.le_of_eq O.tt),O.tt,Nat.sub_self,By λa ha=>lt' (hk a ha)]
   rfl
 .show ej M ((ts++[f9 ts s]).getD (aE (D.par++[D.par.length]) i) t0) _
  rw[uO]
  rcases sp hi with hi |rfl
  .rw[u9 (lt' (kF O.down hi)),u9 (lt' hi)];exact O.sound i hi
  .rw[rl];exact .refl _
 .show l.Nodup/\ ∀m∈l,m<(D.par++[D.par.length]).length/\aE (D.par++[D.par.length]) m=aE (D.par++[D.par.length]) c
  have hl:(D.bn++[[D.bn.length]])[c]? =some l:=hl
  by_cases q:c<D.bn.length
  .rw[mZ q] at hl
   obtain⟨n1,m1⟩:=O.kh c l hl
   exact⟨n1,λm hm=>⟨up (m1 m hm).1,by rw[uO,uO];exact(m1 m hm).2⟩⟩
  .have hi:c=D.bn.length:=by
    have:=(cV.mp hl).1
    rw[bQ] at this
    exact Nat.le_antisymm (Nat.le_of_lt_succ this) (Nat.le_of_not_lt q)
   subst hi
   rw[oo (Nat.le_refl _),Nat.sub_self] at hl
   have:[D.bn.length]=l:=aB.some.inj hl
   subst this
   refine⟨fF.mpr ⟨jf,fA⟩,λm hm=>?_⟩
   rw[aW.mp hm,L,O.ll]
   exact⟨Nat.lt_succ_self _,rfl⟩
 .show ∃l,(D.bn++[[D.bn.length]])[aE (D.par++[D.par.length]) i]? =some l/\i∈l
  rw[uO]
  rcases sp hi with hi |rfl
  .rw[mZ (O.ll.symm▸kF O.down hi)];exact O.has i hi
  .rw[rl,<- O.ll,oo (Nat.le_refl _),Nat.sub_self];exact⟨_,rfl,.head _⟩
 .obtain⟨h1,h2,h3⟩:=O.kn p hp
  exact⟨up h1,λa ha=>up (h2 a ha),by rw[u9 (lt' h1),By λa ha=>lt' (h2 a ha)];exact h3⟩
 .show c∈aa.map (·.1)↔c<(D.par++[D.par.length]).length/\(D.par++[D.par.length]).getD c c=c
  rw[ak,O.ak,L,uN]
  constructor
  .rintro(rfl |⟨h1,h2⟩)
   .exact⟨Nat.lt_succ_self _,xQ (Nat.le_refl _)⟩
   .exact⟨Nat.lt_succ_of_lt h1,h2⟩
  .rintro⟨h1,h2⟩
   rcases Nat.lt_or_eq_of_le (Nat.le_of_lt_succ h1) with h |h
   .exact .inr ⟨h,h2⟩
   .exact .inl h
 .show fu aa<=2*(D.par++[D.par.length]).length
  rw[L,Nat.mul_succ]
  exact Nat.le_trans gZ (Nat.add_le_add_right O.gZ 2)
 .show D.nf+(dJ (D.par++[D.par.length])).length=(D.par++[D.par.length]).length
  rw[N,L];exact KI O.cf
 .show D.nm+(dJ (D.par++[D.par.length])).length=(D.par++[D.par.length]).length
  rw[N,L];exact KI O.cm
 .show D.ne+(dJ (D.par++[D.par.length])).length<=(D.par++[D.par.length]).length+K
  rw[N,L,<- Nat.add_assoc,Nat.add_right_comm D.par.length];exact Nat.succ_le_succ O.ce
end
section
variable{n:Nat}{af:Env}{m:au}{h:HA}{D:HD}{σ aw:ah}{Q:AV->ah->Prop}{M K:Nat}{ts:ae aF}
structure jX(c:Nat)(D D':HD)(ts dW:ae aF):Prop where
 no: ∀(i:Nat) (s:Nd),D.nodes[i]? =some s->D'.nodes[i]? =some s
 ts: ∀i,i<ts.length->dW.getD i t0=ts.getD i t0
 le:D.nodes.length<=D'.nodes.length
 len:D'.nodes.length<=D.nodes.length+c
theorem jX.trans{a b:Nat}{D D' mV:HD}{ts dW KJ:ae aF}(h:jX a D D' ts dW)(k:jX b D' mV dW KJ)(hl:ts.length<=dW.length):jX (a+b) D mV ts KJ:=
 ⟨λi s e=>k.no i s (h.no i s e),λi hi=>(k.ts i (Nat.lt_of_lt_of_le hi hl)).trans (h.ts i hi),Nat.le_trans h.le k.le,Nat.le_trans k.len (by rw[<- Nat.add_assoc];exact Nat.add_le_add_right h.len b)⟩
theorem jX.refl{c:Nat}:jX c D D ts ts:=⟨λω ω e=>e,λω ω=>rfl,Nat.le_refl _,Nat.le_add_right _ _⟩
theorem TM(l:ae (Nat×(Addr×ae Nat)))(p:Nat×(Addr×ae Nat)):fu (l++[p])=fu l+p.2.2.length:=by
 unfold fu;rw[bX,rU];rfl
inductive Xq(h:HA)(D D3:HD)(σ:ah)(k:Nat)(i:Nat)(m:au)(aw:ah):Prop
 |mk (aa:ae (Nat×(Addr×ae Nat))) (T:HS h (D3.mx aa) aw) (F:dU h D (D3.mx aa) σ aw) (key:aa.map (·.1)=D3.aa.map (·.1)) (ab: ∀p∈aa,∀x∈p.2.2,x<=k) (gZ:fu aa<=fu D.aa+i) (m1:m (S "self")=some h.self) (m2:m (S "n")=some (am k))
theorem Sa(l:ae Nat): ∀a∈l.map am,aM 4 a/\ ∀b∈l.map am,dp b=dp a:=λa ha=>by
 obtain⟨s,_,rfl⟩:=aU.mp ha
 exact⟨fq.dat s,λb hb=>by obtain⟨t,_,rfl⟩:=aU.mp hb;rfl⟩
theorem Ho(h: ∀a∈L,∃s:Nat,a=am s): ∃l:ae Nat,L=l.map am:=by
 induction L with
 |nil=>exact⟨[],rfl⟩
 |cons a r ih=>
  obtain⟨s,rfl⟩:=h a (.head _)
  obtain⟨l,rfl⟩:=ih λb hb=>h b (.tail _ hb)
  exact⟨s::l,rfl⟩
theorem GZ{l:ae Nat}:am k∈l.map am↔k∈l:=
 ⟨λq=>by obtain⟨t,h1,h2⟩:=aU.mp q;rwa [<- xP _ _ h2],λq=>aU.mpr ⟨k,q,rfl⟩⟩
theorem Hp{σ:ah}{d:Addr}(hd:σ d=none):vX σ (fP (aA σ d o) d):=λb x e=>by
 have ne:b≠d:=bp e hd
 rw[iY _ ne];exact aP e ne
theorem OZ{L:ae Nat}{L':ae AV}{d:Addr}(hd:σ d=none)(hm: ∀a,a∈L'↔a∈L.map am)(hl:L'.length<=(L.map am).length)(hz:L.length<60)
  (q: ∀O:ae Nat,(∀k,k∈O↔k∈L)->O.length<=L.length->Q (.lst (O.map am)) (fP (aA σ d (.set L')) d)):cK n (.builtin "sorted") [.raw (.ref d)] (aA σ d (.set L')) Q:=by
 rw[ar] at hl
 have hx: ∀a∈L',∃s:Nat,a=am s:=λa ha=>by
  obtain⟨s,_,e⟩:=aU.mp ((hm a).mp ha);exact⟨s,e.symm⟩
 have fx:L'.length<64:=Nat.lt_of_le_of_lt hl (Nat.lt_trans hz (by decide))
 have kQ: ∀X:ae AV,X.Perm L'->(2<=X.length->kJ X)/\X.length<=sizeLine:=λX hX=>
  ⟨λω=>by
   obtain⟨l,rfl⟩:=Ho λa ha=>hx a (hX.mem_iff.mp ha)
   exact Gg l,by rw[hX.length_eq];exact t2 (Nat.lt_trans fx (by decide))⟩
 refine AR (l:=L') (bB _ _ _) (r4 (λX=>X.Perm L') kQ) (t2 (Nat.lt_trans fx (by decide))) λX out hX ho=>?_
 obtain⟨O,rfl⟩:=Ho λa ha=>hx a (hX.mem_iff.mp (ho.1 a ha))
 have fM:=(ho.2.2 (by rw[hX.length_eq];exact fx)).trans hX
 refine q O (λk=>?_) ?_
 .rw[<- GZ,fM.mem_iff,hm,GZ]
 .have:=fM.length_eq
  rw[ar] at this
  rw[this];exact hl
theorem I9(T:HS h D σ)(O:bU M K D ts)(hn:D.nodes.length<40)(hK:K<=9000000){s:Nd}(ha:lD a (s.kids.map am))(hk: ∀k∈s.kids,k<D.par.length)
  (q: ∀k D' dW σ',HS h D' σ'->bU M K D' dW->dU h D D' σ σ'->jX 1 D D' ts dW->D'.nodes[k]? =some s->Q (am k) σ'):aT 15 (.ref 374) [h.self,.str s.op,a] σ Q:=by
 have Z:=O.hz (Nat.le_of_lt (Nat.lt_trans hn (by decide)))
 obtain⟨mg,U,tQ⟩:=T.un
 have pz:D.par.length<900:=O.pt▸Nat.lt_trans hn (by decide)
 refine mG (S "self") (S "op") (S "numbers") ?_
 intro Lo ev mv
 refine cg ?_
 refine bG 127 ?_
 refine aS T.at_ ?_
 refine bI T.bk.at_ ?_
 show ww
 refine(TE T.bk (Nat.lt_trans hn (by decide)) O.nd T.mH ha (λk bJ=>O.pt▸hk k bJ) (λk bJ=>?_) (λhs aw B1 kb1=>?_)).less (by decide)
 .refine aN ?_
  intro mv
  refine te (bu rfl ?_)
  show ww
  refine bG 289 ?_
  refine aS T.at_ ?_
  refine bI U.at_ ?_
  show ww
  refine(Hj U Z.p' ?_).less (by decide)
  refine pf ⟨_,rfl,JV (O.pt▸(cV.mp bJ).1),bC ?_⟩
  show ww
  exact q k D ts σ T O .refl .refl bJ
 obtain⟨T1,F1⟩:=T.qz B1 kb1
 obtain⟨Lj,U1,Xr⟩:=T1.un
 refine aN ?_
 intro mv
 refine eM (bu rfl ?_)
 show ww
 refine bG 289 ?_
 refine aS T1.at_ ?_
 refine bI U1.at_ ?_
 show ww
 refine(Hj U1 Z.p' ?_).less (by decide)
 refine pf ⟨_,rfl,Cm (Nat.le_of_eq O.pt),?_⟩
 refine fb ?_
 refine bG 282 ?_
 refine aS T1.at_ ?_
 refine bI U1.at_ ?_
 show ww
 refine(UP U1 pz (by rw[show(D.qz s).bn=D.bn from rfl,O.ll];exact pz) λla a_ Zk U2 kb2=>⟨trivial,?_⟩).less (by decide)
 obtain⟨T2,F2⟩:=T1.made Zk Xr U2 kb2
 refine cg (sB (l_nil ⟨Nat.zero_le _,λc hc=>?_⟩))
 have nk:D.nodes.length∉D.aa.map (·.1):=λq=>Nat.lt_irrefl _ (O.pt▸((O.ak _).mp q).1)
 have az:D.aa.length<1000:=by
  have:=nt D.par.length O.eh λx hx=>((O.ak x).mp hx).1
  rw[ar] at this
  exact Nat.lt_trans (Nat.lt_of_le_of_lt this pz) (by decide)
 refine o5 fq (f:=λp:Addr×ae Nat=>AV.raw (.ref p.1)) (λω ω ω ω=>rfl) ?_
 have at2:=aP (o':=AO.list []) T2.at_ (bp T2.at_ hc)
 have Ek:=aP (o':=AO.list []) T2.av (bp T2.av hc)
 refine aS at2 ?_
 show ww
 refine⟨_,_,D.nodes.length,(c,[]),rfl,rfl,rfl,Ek,O.eh,az,?_⟩
 obtain⟨T3,F3⟩:=T2.Xn hc nk
 revert T3 F3
 refine dP (aA _ h.av _) λcn=>?_
 intro T3 F3
 have Mg:=F1.trans (F2.trans F3)
 generalize e3:((D.qz s).made la).mx (bH D.nodes.length (c,[]) ((D.qz s).made la).aa)=D3 at T3 F3 Mg
 have wP:D3.aa=D.aa++[(D.nodes.length,(c,[]))]:=e3▸kA (lm.mpr nk)
 have KM:D3.par=D.par++[D.par.length]:=e3▸rfl
 have Zl: ∀k∈s.kids,k<D3.par.length:=λk bJ=>by rw[KM,bQ];exact Nat.lt_succ_of_lt (hk k bJ)
 have Cq:D3.nodes=D.nodes++[s]:=e3▸rfl
 have Z3:HZ D3:=e3▸⟨by show(D.nodes++[s]).length<=50;rw[bQ];exact Nat.le_trans hn (by decide),by show(D.par++[D.par.length]).length<=(D.nodes++[s]).length;rw[bQ,bQ,O.pt];exact Nat.le_refl _,by show(D.bn++[[D.bn.length]]).length=(D.par++[D.par.length]).length;rw[bQ,bQ,O.ll];rfl,Hn O.down⟩
 refine oU (Xq h D D3 σ D.nodes.length) (λω ω=>rfl) (w_seq (UK ?_))
 refine bq (.builtin "sorted") ?_
 show ww
 refine bq (.type "set") ?_
 show ww
 refine fG [(S "self",Lo+1)] (w_seq ?_)
 show ww
 refine⟨_,ha,qj (L:=s.kids) (f:=am) (λk=>am (aE D3.par k)) (t2 (Nat.lt_of_le_of_lt s.ji (by decide))) (λC k bJ=>?_) ?_⟩
 .refine aN ?_
  refine bG 393 ?_
  show ww
  refine bI T3.at_ ?_
  show ww
  exact(oN T3 Z3 (Zl k bJ) ⟨rfl,rfl⟩).less (by decide)
 rw[show(s.kids.map λk=>am (aE D3.par k))=(s.kids.map (aE D3.par)).map am from(by rw[cQ];rfl)]
 have kl:(s.kids.map (aE D3.par)).length<=2:=by rw[ar];exact s.ji
 show ww
 refine yT (Sa _) (by rw[ar];exact Nat.le_trans kl (by decide)) λd L' hd pN rC=>?_
 show ww
 refine OZ hd pN rC (Nat.lt_of_le_of_lt kl (by decide)) λC hC Zm=>⟨cn,Hp hd,_,.lst _,?_,?_,?_⟩
 .refine⟨D3.aa,e3▸T3,e3▸Mg,rfl,?_,?_,rfl,rfl⟩
  .intro p hp x hx
   rw[wP] at hp
   rcases cy.mp hp with hp |hp
   .exact Nat.le_of_lt (O.pt▸O.ab p hp x hx)
   .rw[aW.mp hp] at hx;cases hx
  .rw[wP,TM];exact Nat.le_refl _
 .intro i b m' eO hi I Qv
  obtain⟨aa,T4,F4,key,ab,gZ,m1,m2⟩:=I
  rw[cP] at hi
  obtain⟨k,bJ,rfl⟩:=dA.mp hi
  obtain⟨b,hb,ek⟩:=aU.mp ((hC k).mp (cO bJ))
  have gW:k<D.par.length/\D.par.getD k k=k:=by
   rw[<- ek,KM,uO];exact⟨kF O.down (hk b hb),(nF O.down b).1⟩
  have zP:k∈aa.map (·.1):=by
   rw[key,wP,bX];exact gc _ ((O.ak k).mpr gW)
  obtain⟨⟨ad,l⟩,hg⟩: ∃v,aX k aa=some v:=by
   cases q:aX k aa with
   |some v=>exact⟨v,rfl⟩
   |none=>exact ax zP (lm.mp q)
  have mk:=eG hg
  have JX:=T4.each _ mk
  have ll:l.length<1000:=Nat.lt_of_le_of_lt (Nat.le_trans (BV mk) gZ) (by
   have:=O.gZ;have:=(cV.mp bJ).1;have:=O.pt;lia)
  refine aN ?_
  intro mv
  refine fb (dF (λω=>rfl) (bh ?_))
  refine aS T4.at_ ?_
  show ww
  refine ge fq rfl (.ref T4.av) (λω ω=>rfl) T4.eh hg ?_
  refine⟨_,ln (.ref JX),dI,?_⟩
  show ww
  refine qF JX (v:=D.nodes.length) rfl (t3 ll) ⟨fJ,bE ?_⟩
  obtain⟨T5,F5⟩:=T4.Xm (l':=l++[D.nodes.length]) hg
  refine⟨_,T5,F4.trans F5,(r8 zP).trans key,λp hp x hx=>?_,?_,m1,m2⟩
  .rcases iT hp with rfl |hp
   .rcases cy.mp hx with hx |hx
    .exact ab _ mk x hx
    .exact Nat.le_of_eq (aW.mp hx)
   .exact ab p hp x hx
  .have:=Ie (w:=(ad,l++[D.nodes.length])) hg
   show fu (bH k (ad,l++[D.nodes.length]) aa)<=_
   simp only[bQ,Fh] at this;lia
 intro m' eO I
 obtain⟨aa,T4,F4,key,ab,gZ,m1,m2⟩:=I
 rw[ar] at gZ
 obtain⟨O4,P4⟩:=O.added hs hk (la:=D3.la) (aa:=aa) (by rw[key,wP,bX];exact ot.mpr ⟨O.eh,fF.mpr ⟨jf,fA⟩,λx hx y hy e=>by rw[aW.mp hy] at e;have e:x=D.nodes.length:=e;exact nk (e▸hx)⟩)
  (λc=>by rw[key,wP,bX,cy,O.pt];exact⟨λh=>h.symm.imp aW.mp id,λh=>h.symm.imp id aW.mpr⟩) (λp hp x hx=>O.pt▸ab p hp x hx) (Nat.le_trans gZ (Nat.add_le_add_left (Nat.le_trans Zm kl) _))
 have eD:D3.mx aa=⟨D.nodes++[s],D.par++[D.par.length],D.bn++[[D.bn.length]],D3.la,D.ne,D.nf,D.nm,D.kn,aa,D.wl⟩:=by subst e3;rfl
 rw[<- eD] at O4 P4
 have Mh:(D3.mx aa).nodes[D.nodes.length]? =some s:=by
  show D3.nodes[D.nodes.length]? =some s
  rw[Cq,oo (Nat.le_refl _),Nat.sub_self];rfl
 have Zn:(D3.mx aa).nodes.length<=40:=by
  show D3.nodes.length<=40
  rw[Cq,bQ];exact hn
 refine fb ?_
 refine bG 386 ?_
 show ww
 refine bI T4.at_ ?_
 show ww
 refine Ig T4 O4 Zn hK (by rw[eD] at P4 ⊢;exact P4) Mh λD5 eY T5 O5 F5 S5=>⟨fJ,bC ?_⟩
 show ww
 have n5:D5.nodes=D.nodes++[s]:=S5.nodes.trans Cq
 refine q _ D5 _ eY T5 O5 (F4.trans F5) ⟨λi t e=>?_,λi hi=>u9 hi,?_,?_⟩ ?_
 .rw[n5,mZ (cV.mp e).1];exact e
 .rw[n5,bQ];exact Nat.le_succ _
 .rw[n5,bQ];exact Nat.le_refl _
 .rw[S5.nodes];exact Mh
end
section
variable{n:Nat}{af:Env}{m:au}{h:HA}{D:HD}{σ aw:ah}{Q:AV->ah->Prop}{M K:Nat}{ts:ae aF}
theorem ga.held{b:BA}{nodes:ae Nd}(B:ga b nodes σ){c:Addr}(hc:c∈b.fp):σ c≠none:=by
 obtain⟨l1,h1,_⟩:=B.we
 obtain⟨l2,h2,_⟩:=B.de
 intro e
 exact mm hc (λq=>im q B.at_ e) λhc=>mm hc (λq=>im q B.no e) λhc=>mm hc (λq=>im q B.nu e) λhc=>mm hc (λq=>im q h1 e) λhc=>mm hc (λq=>im q h2 e) m0
noncomputable def HD.zero:HD:=⟨[],[],[],[],0,0,0,[],[],[]⟩
theorem bU.zero:bU M 0 HD.zero []:=
 ⟨rfl,rfl,rfl,λi=>Nat.le_refl _,fA,λi s h=>(by cases h),λi h=>ax h (Nat.not_lt_zero _),λc l h=>(by cases h),λi h=>ax h (Nat.not_lt_zero _),fA,λp h=>(by cases h),fA,
  λc=>⟨λh=>(by cases h),λh=>ax h.1 (Nat.not_lt_zero _)⟩,λp h=>(by cases h),Nat.le_refl _,λp h=>(by cases h),rfl,rfl,Nat.le_refl _,Nat.le_refl _⟩
theorem UQ(q: ∀(h:HA) σ',HS h HD.zero σ'->(∀c,ij h HD.zero c->σ c=none)->dg σ σ'->Q h.self σ'):aT 16 (.ref 469) [] σ Q:=by
 refine nK (fI:=357) (by kernel_rfl) (by kernel_rfl) (by kernel_rfl) λx dx dn=>?_
 refine fC (S "self") ?_
 intro Lo ev mv
 have dH:aA σ dx (.attrs []) dx=_:=bB _ _ _
 have k0: ∀c o,σ c=some o->aA σ dx (.attrs []) c=some o:=λc o e=>aP e (bp e dn)
 have r0: ∀c,aA σ dx (.attrs []) c=none->σ c=none:=λc e=>(kw e).2
 revert dH k0 r0
 refine dP (aA σ dx (.attrs [])) λfU=>?_
 intro dH k0 r0
 refine dq ?_
 refine bY 203 ?_
 show ww
 refine UO λb σa B Zo bf Ep=>?_
 refine⟨_,Ep _ _ dH,by kernel_rfl,λaw M1=>?_⟩
 have bd: ∀c∈b.fp,c≠dx:=λc hc q=>bp dH (bf c hc) q.symm
 have B1:ga b [] aw:=B.keep λc hc o e=>M1.keep c o e (bd c hc)
 refine dq ?_
 refine bY 339 ?_
 show ww
 refine TF λu σb U uf Er=>?_
 refine⟨_,Er _ _ M1.at_,by kernel_rfl,λa_ M2=>?_⟩
 have ud: ∀c∈u.fp [],c≠dx:=λc hc q=>bp M1.at_ (uf c hc) q.symm
 have B2:ga b [] a_:=B1.keep λc hc o e=>M2.keep c o (Er _ _ e) (bd c hc)
 have U2:ff u [] [] [] [] a_:=U.vE λc hc o e=>M2.keep c o e (ud c hc)
 have ub: ∀c∈u.fp [],c∉b.fp:=λc hc q=>B1.held q (uf c hc)
 have Zp: ∀c∈u.fp [],σ c=none:=λc hc=>r0 _ (by
  cases e:fU c with
  |none=>rfl
  |some o=>have z:=M1.keep c o (Ep _ _ e) (ud c hc);rw[uf c hc] at z;cases z)
 have k2: ∀c o,σ c=some o->c≠dx->a_ c=some o:=λc o e ne=>M2.keep _ _ (Er _ _ (M1.keep _ _ (Ep _ _ (k0 _ _ e)) ne)) ne
 have r2: ∀c,a_ c=none->σ c=none:=λc e=>by
  cases q:σ c with
  |none=>rfl
  |some o=>rw[k2 c o q (bp q dn)] at e;cases e
 refine dq (mj M2.at_ rfl ?_)
 intro a1 cn n1 f1 m1 v1
 refine dq (mj m1.at_ rfl ?_)
 intro a2 eO n2 f2 m2 v2
 refine dq (yA m2.at_ rfl ?_)
 intro a3 eY n3 f3 m3 v3
 refine dq (yA m3.at_ rfl ?_)
 intro a4 wQ n4 f4 m4 v4
 refine dq (mj m4.at_ rfl ?_)
 intro a5 lR n5 f5 m5 v5
 have K7: ∀c o,a_ c=some o->c≠dx->lR c=some o:=λc o e ne=>m5.keep _ _ (m4.keep _ _ (m3.keep _ _ (m2.keep _ _ (m1.keep _ _ e ne) ne) ne) ne) ne
 have w1:=m2.keep _ _ v1 n1
 have wN:=m3.keep _ _ w1 n1
 have KN:=m4.keep _ _ wN n1
 have w2:=m3.keep _ _ v2 n2
 have Mi:=m4.keep _ _ w2 n2
 have w3:=m4.keep _ _ v3 n3
 have g1:=f1
 have g2:=m1.old f2
 have g3:=m1.old (m2.old f3)
 have g4:=m1.old (m2.old (m3.old f4))
 have g5:=m1.old (m2.old (m3.old (m4.old f5)))
 have six: ∀c,c∈[a1,a2,a3,a4,a5]->a_ c=none:=λc hc=>mm hc (λq=>q▸g1) λhc=>mm hc (λq=>q▸g2) λhc=>mm hc (λq=>q▸g3) λhc=>mm hc (λq=>q▸g4) λhc=>mm hc (λq=>q▸g5) m0
 refine bE ⟨rfl,q ⟨x,dx,b,u,a1,a2,a3,a4,a5⟩ lR ⟨m5.at_,B2.keep λc hc o e=>K7 c o e (bd c hc),⟨[],U2.vE λc hc o e=>K7 c o e (ud c hc),rfl⟩,⟨[],m5.keep _ _ KN n1,rfl⟩,⟨[],m5.keep _ _ Mi n2,rfl⟩,m5.keep _ _ w3 n3,m5.keep _ _ v4 n4,λp hp=>(by cases hp),v5,?_,Zo,λc hc q=>?_,λc hc=>⟨λq=>?_,ub c hc⟩,λp hp=>(by cases hp),fA,fA⟩ ?_ ?_⟩
 .have e1:=bp v1 f2
  have e2:=bp w1 f3
  have e3:=bp wN f4
  have e4:=bp KN f5
  have e5:=bp v2 f3
  have e6:=bp w2 f4
  have e7:=bp Mi f5
  have e8:=bp v3 f4
  have e9:=bp w3 f5
  have Zq:=bp v4 f5
  exact iX (dM n1.symm (dM n2.symm (dM n3.symm (dM n4.symm (dM n5.symm i4))))) (iX (dM e1 (dM e2 (dM e3 (dM e4 i4)))) (iX (dM e5 (dM e6 (dM e7 i4))) (iX (dM e8 (dM e9 i4)) (iX (dM Zq i4) (iX i4 Ck)))))
 .rcases aY.mp q with q |q
  .exact bd c hc q
  .exact B2.held hc (six c q)
 .rcases aY.mp q with q |q
  .exact ud c hc q
  .exact U2.fresh (six c q) hc
 .intro c hc
  rcases hc with hc |hc |hc |⟨p,hp,_⟩
  .rcases aY.mp hc with q |q
   .exact q▸dn
   .exact r2 c (six c q)
  .exact r0 _ (bf c hc)
  .exact Zp c hc
  .cases hp
 .intro c o e
  exact K7 _ _ (k2 c o e (bp e dn)) (bp e dn)
end
section
noncomputable def Tree.sz{L:Type}:Tree L->Nat
 | .lf _=>1 | .ng a=>a.sz+1 | .ad a b=>a.sz+b.sz+1 | .ml a b=>a.sz+b.sz+1
noncomputable def jz{L:Type}(l:ae (Tree L)):Nat:=(l.map Tree.sz).sum
theorem BX{L:Type}(t:Tree L):t.sz=jz t.kids+1:=by
 cases t with
 |lf i=>rfl
 |ng a=>rfl
 |ad a b=>rfl
 |ml a b=>rfl
noncomputable def Tree.nd:aF->ae Nat->Nd
 | .lf i,_=> .lf i
 | .ng _,ks=> .ng (ks.getD 0 0)
 | .ad _ _,ks=> .ad (ks.getD 0 0) (ks.getD 1 0)
 | .ml _ _,ks=> .ml (ks.getD 0 0) (ks.getD 1 0)
theorem JY{T:Nat->aF}: ∀{t:aF} {ks:ae Nat},ks.map T=t.kids->(t.nd ks).kids=ks/\(t.nd ks).op=t.op Lf.s/\((t.nd ks).map T).tm=t
 | .lf i,ks,h=>by
  have:ks=[]:=NI.mp h
  subst this;exact⟨rfl,rfl,rfl⟩
 | .ng a,ks,h=>by
  obtain⟨k,rfl⟩:=Fe.mp (by rw[<- ar (f:=T),h];rfl:ks.length=1)
  exact⟨rfl,rfl,congrArg Tree.ng (eC h).1⟩
 | .ad a b,ks,h=>by
  obtain⟨k,j,rfl⟩:=uY (by rw[<- ar (f:=T),h];rfl:ks.length=2)
  have h:=eC h
  refine⟨rfl,rfl,?_⟩
  show Tree.ad (T k) (T j)=_
  rw[h.1,(eC h.2).1]
 | .ml a b,ks,h=>by
  obtain⟨k,j,rfl⟩:=uY (by rw[<- ar (f:=T),h];rfl:ks.length=2)
  have h:=eC h
  refine⟨rfl,rfl,?_⟩
  show Tree.ml (T k) (T j)=_
  rw[h.1,(eC h.2).1]
variable{n:Nat}{af:Env}{m:au}{h:HA}{D:HD}{σ aw:ah}{Q:AV->ah->Prop}{M K:Nat}{ts:ae aF}
theorem oz{L:Type}(t:Tree L):t.kids.length<=2:=by cases t<;>exact Nat.le_of_ble_eq_true rfl
theorem jj{L:Type}(ls:L->Str)(t:Tree L):(AV.str (t.op ls)::t.kids.map (Tree.av ls)).length<1000:=by
 rw[gh,ar];exact Nat.lt_of_le_of_lt (Nat.succ_le_succ (oz t)) (by decide)
inductive Xs(M K:Nat)(h:HA)(D:HD)(ts:ae aF)(σ:ah)(ki:ae aF)(i:Nat)(acc:ae AV)(aw:ah):Prop
 |mk (D1:HD) (cU:ae aF) (ks:ae Nat) (T:HS h D1 aw) (O:bU M K D1 cU) (F:dU h D D1 σ aw) (g:jX (jz (ki.take i)) D D1 ts cU) (e:acc=ks.map am) (v:ks.map (λk=>cU.getD k t0)=ki.take i) (l: ∀k∈ks,k<D1.par.length)
theorem Hq{L:Type}{l:ae (Tree L)}{a:Tree L}(h:l[i]? =some a):jz (l.take (i+1))=jz (l.take i)+a.sz:=by
 unfold jz;rw[fh,h,bX,rU];simp
theorem I_{L:Type}{l:ae (Tree L)}{a:Tree L}(h:l[i]? =some a):jz (l.take i)+a.sz<=jz l:=by
 have e:=Ff (i+1) l
 rw[<- Hq h]
 have:jz l=jz (l.take (i+1))+jz (l.drop (i+1)):=by
  unfold jz;rw[<- rU,<- bX,e]
 rw[this];exact Nat.le_add_right _ _
theorem US(hK:K<=9000000): ∀(d:Nat) (t:aF) {D:HD} {ts:ae aF} {σ:ah} {Q:AV->ah->Prop},t.dep<d->HS h D σ->bU M K D ts->D.nodes.length+t.sz<=40->
  (∀k D' dW σ',HS h D' σ'->bU M K D' dW->dU h D D' σ σ'->jX t.sz D D' ts dW->k<D'.par.length->dW.getD k t0=t->Q (am k) σ')->aT (15+3*d) (.ref 379) [h.self,t.av] σ Q:=by
 intro d
 induction d with
 |zero=>intro t D ts σ Q hd;exact ax hd (Nat.not_lt_zero _)
 |succ d ih=>
  intro t D ts σ Q hd T O hn q
  show aT ((15+3*d)+3) _ _ _ _
  rw[show t.av= .tup (.str (t.op Lf.s)::t.kids.map aF.av) from Tree.i6 _ _]
  rw[BX] at hn
  refine eL (S "self") (S "term") ?_
  intro Lo ev mv
  refine bC ?_
  refine bG 374 ?_
  show ww
  refine bI T.at_ ?_
  show ww
  refine bh ?_
  show ww
  refine dC (λω ω=>rfl) (c_ _) (t1 (jj Lf.s t)) rfl ?_
  show ww
  refine bq (.type "tuple") ?_
  show ww
  refine fG [(S "self",Lo+1)] (w_seq (hG (lo:=some 1) (hi:=none) (.int 1 _ _) .none ?_))
  show ww
  refine jD (Nat.succ_le_succ (Nat.zero_le _)) (t2 (jj Lf.s t)) ?_
  refine⟨_,.tup _,λi acc σ'=>Xs M K h D ts σ t.kids i acc σ',⟨D,ts,[],T,O,.refl,.refl,rfl,rfl,λk hk=>by cases hk⟩,?_,?_⟩
  .intro C i b acc aw hi hI ce cm Jv
   obtain⟨D1,cU,ks,T1,O1,F1,g1,rfl,v1,l1⟩:=hI
   have hi:(t.kids.map aF.av)[i]? =some b:=hi
   rw[cP] at hi
   obtain⟨u,hu,rfl⟩:=dA.mp hi
   have iI:=I_ hu
   refine aN (iV (bS rfl ?_))
   refine bG 379 ?_
   show ww
   refine bI T1.at_ ?_
   show ww
   refine ih u (Nat.lt_of_lt_of_le (Tree.nG (cO hu)) (Nat.le_of_lt_succ hd)) T1 O1 (by have:=g1.len;lia) λk D2 ez a_ T2 O2 F2 g2 kS rD=>?_
   have tl:ts.length<=cU.length:=by rw[O.tt,O1.tt];exact g1.le
   have kl:ks.length<=i:=by rw[<- ar (f:=λk=>cU.getD k t0),v1,jA];exact Nat.min_le_left _ _
   refine⟨?_,D2,ez,ks++[k],T2,O2,F1.trans F2,by rw[Hq hu];exact g1.trans g2 tl,by rw[bX];rfl,?_,λx hx=>?_⟩
   .rw[ar];exact t3 (Nat.lt_of_le_of_lt (Nat.le_trans kl (Nat.le_of_lt (cV.mp hu).1)) (Nat.lt_of_le_of_lt (oz t) (by decide)))
   .have e1:ks.map (λk=>ez.getD k t0)=ks.map (λk=>cU.getD k t0):=pX λx hx=>g2.ts x (by rw[O1.tt,<- O1.pt];exact l1 x hx)
    rw[fh,hu,bX,e1,v1]
    exact congrArg (_++[·]) rD
   .rcases cy.mp hx with hx |hx
    .exact Nat.lt_of_lt_of_le (l1 x hx) (by rw[O1.pt,O2.pt];exact g2.le)
    .rw[aW.mp hx];exact kS
  .intro acc aw hI
   obtain⟨D1,cU,ks,T1,O1,F1,g1,rfl,v1,l1⟩:=hI
   have e0:((AV.str (t.op Lf.s)::t.kids.map aF.av).drop 1).length=t.kids.length:=ar _
   rw[e0,g8] at v1 g1
   obtain⟨n1,n2,n3⟩:=JY v1
   have kl:ks.length<=2:=by rw[<- ar (f:=λk=>cU.getD k t0),v1];exact oz t
   show ww
   refine oJ (.lst _) (by rw[ar];exact t2 (Nat.lt_of_le_of_lt kl (by decide))) ?_
   show ww
   have g:=g1.len
   have A:=I9 (Q:=λr σ'=>Q r σ') T1 O1 (by lia) hK (s:=t.nd ks) (a:= .tup ((t.nd ks).kids.map am)) (.tup _) (λk hk=>l1 k (n1▸hk)) λk D2 ez a_ T2 O2 F2 g2 wR=>?_
   .rw[n2,n1] at A
    exact A.less (Nat.le_add_right _ _)
   .have tl:ts.length<=cU.length:=by rw[O.tt,O1.tt];exact g1.le
    refine q k D2 ez a_ T2 O2 (F1.trans F2) (by rw[BX];exact g1.trans g2 tl) (yB O2 wR).1 ?_
    rw[tm_at O2 wR]
    have e1:ks.map (λk=>ez.getD k t0)=t.kids:=(pX λx hx=>g2.ts x (by rw[O1.tt,<- O1.pt];exact l1 x hx)).trans v1
    exact(JY e1).2.2
end
section
theorem Wc(T:Nat->aF)(s:Nd):(s.map T).tm.av= .tup ([AV.str s.op]++s.kids.map λa=>(T a).av):=by cases s<;>rfl
variable{n:Nat}{af:Env}{m:au}{σ aw:ah}{Q:AV->ah->Prop}{ts:ae aF}{b:BA}{nodes:ae Nd}
noncomputable abbrev mI(_:Unit):AV:= .raw (.bool true)
noncomputable abbrev gw(l:ae (Nat×Unit)):ae Nat:=l.map (·.1)
structure qO(nodes:ae Nd)(n0:Nat)(bl:ae (Nat×Unit))(st:ae Nat)(x:aB Nat):Prop where
 nd:(gw bl).Nodup
 lt: ∀k∈gw bl,k<nodes.length
 has:n0∈gw bl
 zQ: ∀k∈st,k∈gw bl
 cl: ∀k∈gw bl,x=some k\/k∈st\/ ∀s,nodes[k]? =some s-> ∀a∈s.kids,a∈gw bl
inductive Wd(nodes:ae Nd)(n0:Nat)(σ:ah)(bd sd:Addr)(b:BA)(N:Nat)(m:au)(aw:ah):Prop
 |mk (bl:ae (Nat×Unit)) (st:ae Nat) (g:qO nodes n0 bl st none) (hb:aw bd=some (.dict (aZ am mI bl))) (hs:aw sd=some (.list (st.map am))) (k:dg σ aw) (e:st.length+2*(nodes.length - bl.length)=N) (z:N<=200)
   (m1:m (S "self")=some b.self) (m2:m (S "below")=some (.raw (.ref bd))) (m3:m (S "stack")=some (.raw (.ref sd))) (m4:m (S "n")=some (am n0))
inductive We(nodes:ae Nd)(n0:Nat)(σ:ah)(bd sd:Addr)(b:BA)(N x:Nat)(s:Nd)(i:Nat)(m:au)(aw:ah):Prop
 |mk (bl:ae (Nat×Unit)) (st:ae Nat) (g:qO nodes n0 bl st (some x)) (done: ∀a∈s.kids.take i,a∈gw bl) (hb:aw bd=some (.dict (aZ am mI bl))) (hs:aw sd=some (.list (st.map am))) (k:dg σ aw) (e:st.length+2*(nodes.length - bl.length)<N) (z:N<=200)
   (m1:m (S "self")=some b.self) (m2:m (S "below")=some (.raw (.ref bd))) (m3:m (S "stack")=some (.raw (.ref sd))) (m4:m (S "n")=some (am n0))
theorem qO.len{n0:Nat}{bl:ae (Nat×Unit)}{st:ae Nat}{x:aB Nat}(g:qO nodes n0 bl st x):bl.length<=nodes.length:=by
 have:=nt nodes.length g.nd g.lt
 rwa [ar] at this
theorem qO.add{n0 a:Nat}{bl:ae (Nat×Unit)}{st:ae Nat}{x:aB Nat}(g:qO nodes n0 bl st x)(ha:a<nodes.length)(hn:aX a bl=none):qO nodes n0 (bH a () bl) (st++[a]) x:=by
 have e:gw (bH a () bl)=gw bl++[a]:=by rw[kA hn];exact bX
 have up: ∀k,k∈gw bl->k∈gw (bH a () bl):=λk hk=>e▸gc _ hk
 refine⟨kE g.nd,λk hk=>?_,up _ g.has,λk hk=>?_,λk hk=>?_⟩
 .rw[e] at hk
  rcases cy.mp hk with h |h
  .exact g.lt k h
  .rw[aW.mp h];exact ha
 .rcases cy.mp hk with h |h
  .exact up k (g.zQ k h)
  .rw[e];exact iN _ h
 .rw[e] at hk
  rcases cy.mp hk with h |h
  .rcases g.cl k h with q |q |q
   .exact .inl q
   .exact .inr (.inl (gc _ q))
   .exact .inr (.inr λs hs a ha=>up a (q s hs a ha))
  .exact .inr (.inl (iN _ h))
inductive Wf(nodes:ae Nd)(n0:Nat)(σ:ah)(md:Addr)(b:BA)(ts:ae aF)(ks:ae Nat)(i:Nat)(m:au)(aw:ah):Prop
 |mk (ml:ae (Nat×aF)) (hm:aw md=some (.dict (aZ am aF.av ml))) (k:dg σ aw) (nd:(ml.map (·.1)).Nodup) (len:ml.length<=i) (got: ∀j∈ks.take i,aX j ml=some (ts.getD j t0))
   (m1:m (S "self")=some b.self) (m2:m (S "made")=some (.raw (.ref md))) (m4:m (S "n")=some (am n0))
theorem Pq{l:ae Nat}{out:ae AV}(h: ∃ns:ae aj,out=ns.map .int/\ns.Pairwise (· <= ·)/\out.Perm (l.map am)): ∃ks:ae Nat,out=ks.map am/\ks.Perm l/\ks.Pairwise (· <= ·):=by
 obtain⟨ns,rfl,hs,hp⟩:=h
 obtain⟨ks,e,hk⟩:=Hi r7 hp
 refine⟨ks,e,hk,?_⟩
 have e2:ns=ks.map λk:Nat=>(k:aj):=by
  have:=congrArg (r9 λa=>match a with | .int i=>i |_=>(0:aj)) e
  rw[cQ,cQ] at this
  have l:ns.map ((λa=>match a with |AV.int i=>i |_=>(0:aj))∘AV.int)=ns:=p_ _
  rw[l] at this
  exact this
 rw[e2] at hs
 exact(NY.mp hs).imp λh=>lW.mp h
theorem Xt{s N l:Nat}(h:s+2*(N - l)<k)(hl:l<N):s+1+2*(N - (l+1))<k:=by
 rw[show N - l=N - (l+1)+1 from(Nat.sub_add_cancel (Nat.sub_pos_of_lt hl)).symm] at h
 rw[Nat.add_right_comm];exact Nat.lt_of_succ_lt h
set_option maxHeartbeats 8000000 in
theorem TN(B:ga b nodes σ)(hn:nodes.length<=50)(tree: ∀(n:Nat) (s:Nd),nodes[n]? =some s->(∀a∈s.kids,a<n)/\ts[n]? =some (f9 ts s)){n0:Nat}(h0:n0<nodes.length)
  (q:Q (ts.getD n0 t0).av σ):aT 6 (.ref 179) [b.self,am n0] σ Q:=by
 have hz:nodes.length<1000:=Nat.lt_of_le_of_lt hn (by decide)
 have node: ∀k,k<nodes.length-> ∃s,nodes[k]? =some s:=λk hk=>⟨_,cL hk⟩
 have Mj: ∀{k s},nodes[k]? =some s-> ∀a∈s.kids,a<k/\a<nodes.length:=λhs a ha=>⟨(tree _ _ hs).1 a ha,Nat.lt_trans ((tree _ _ hs).1 a ha) (cV.mp hs).1⟩
 have tv: ∀{k s},nodes[k]? =some s->ts.getD k t0=f9 ts s:=λhs=>by rw[ip,(tree _ _ hs).2];rfl
 refine mi ?_
 refine eL (S "self") (S "n") ?_
 intro Lo ev mv
 refine jW (sv rfl rfl rfl rfl rfl (e_tuple (l_cons (yy [(.Name (S "n") _,.Constant (.bool true) _ _)] rfl (by simp) (by decide) λbd zR=>?_))))
 refine oT ?_
 show ww
 refine yS ⟨bB _ _ _,⟨ma fq (f:=mI) (l:=[]) fA n0,trivial⟩,Nat.le_of_ble_eq_true rfl,?_⟩
 have pP:aA (aA σ bd (.dict [])) bd (.dict (hU [] [(am n0,AV.raw (.bool true))])) bd=some (.dict (aZ am mI [(n0,())])):=bB _ _ _
 have k1:dg σ (aA (aA σ bd (.dict [])) bd (.dict (hU [] [(am n0,AV.raw (.bool true))]))):=λc o e=>aP (aP e (bp e zR)) (bp e zR)
 revert pP k1
 refine dP (aA (aA σ bd (.dict [])) bd _) λaw=>?_
 intro pP k1
 show ww
 refine sB ?_
 show ww
 refine⟨t2 (n:=1) (by decide),λsd wS=>?_⟩
 show ww
 refine⟨t2 (n:=2) (by decide),_,_,rfl,?_⟩
 have og:aA aw sd (.list [am n0]) sd=some (.list ([n0].map am)):=bB _ _ _
 have tI:aA aw sd (.list [am n0]) bd=_:=aP pP (bp pP wS)
 have k2:dg σ (aA aw sd (.list [am n0])):=λc o e=>have e:=k1 c o e;aP e (bp e wS)
 have bs:bd≠sd:=bp pP wS
 revert og tI k2
 refine dP (aA aw sd _) λa_=>?_
 intro og tI k2
 refine uK (Wd nodes n0 σ bd sd b) _ ⟨[(n0,())],[n0],⟨fF.mpr ⟨jf,fA⟩,λk hk=>by rewrite [aW.mp hk];exact h0,.head _,λk hk=>hk,λk hk=> .inr (.inl hk)⟩,tI,og,k2,rfl,Nat.le_trans (Nat.add_le_add_left (Nat.mul_le_mul_left 2 (Nat.le_trans (Nat.sub_le ..) hn)) 1) (by decide),rfl,rfl,rfl,rfl⟩ λN m' cn I=>?_
 intro Qv
 obtain⟨bl,st,g,hb,hs,k3,e,z,m1,m2,m3,m4⟩:=I
 have B3:ga b nodes cn:=B.keep λc ω o e=>k3 c o e
 have wT:st.length<1000:=Nat.lt_of_le_of_lt (Nat.le_trans (Nat.le_add_right _ _) (Nat.le_trans (Nat.le_of_eq e) z)) (by decide)
 refine bu rfl ?_
 refine bq (.builtin "len") ?_
 show ww
 refine dL (.inr (.ref hs)) (by rw[ar];exact t1 wT) ?_
 rw[ar]
 show ww
 refine s9 ⟨_,rfl,?_⟩
 rcases Nt st with e0 |⟨an,x,e0⟩
 .refine bL (by rw[e0];rfl) ?_
  subst e0
  refine cg (uX λmd zS=>aN ?_)
  have Es:aA cn md (.dict []) bd=_:=aP hb (bp hb zS)
  have Et:aA cn md (.dict []) md=some (.dict (aZ am aF.av [])):=bB _ _ _
  have k4:dg σ (aA cn md (.dict [])):=λc o e=>have e:=k3 c o e;aP e (bp e zS)
  have mN:σ md=none:=by
   cases q:σ md with
   |none=>rfl
   |some o=>exact ax (k3 _ _ q) (by rw[zS];exactλz=>nomatch z)
  revert Es Et k4
  refine dP (aA cn md _) λeO=>?_
  intro Es Et k4
  have gl:=g.len
  refine qr (λω ω=>rfl) (w_seq ?_)
  refine bq (.builtin "sorted") ?_
  show ww
  have kQ: ∀L:ae AV,L=(aZ am mI bl).map (·.1)->(∀a∈L,∃i,a= .int i)/\L.length<64:=λL h=>by
   subst h
   refine⟨λa ha=>?_,by rw[ar,kD];exact Nat.lt_of_le_of_lt gl (Nat.lt_of_le_of_lt hn (by decide))⟩
   obtain⟨p,hp,rfl⟩:=aU.mp ha
   obtain⟨p,hp,rfl⟩:=aU.mp hp
   exact⟨_,rfl⟩
  refine FX Es (Gq _ kQ) (by rw[kD];exact t2 (Nat.lt_of_le_of_lt gl hz)) λout ho=>?_
  obtain⟨ks,e1,fM,Wg⟩:=Pq (l:=gw bl) (by
   have e:(aZ am mI bl).map (·.1)=(gw bl).map am:=by
    unfold aZ gw;rw[cQ,cQ];rfl
   rw[e] at ho;exact ho)
  subst e1
  have kz:ks.length<=nodes.length:=by rw[fM.length_eq,ar];exact gl
  refine⟨_,.lst _,Wf nodes n0 σ md b ts ks,?_,?_,?_⟩
  .exact⟨[],(iY _ (bp hb zS).symm).trans Et,λc o e=>(iY _ (bp e zR)).trans (k4 c o e),fA,Nat.le_refl _,(λj hj=>by rw[pZ] at hj;cases hj),m1,rfl,m4⟩
  .intro i a Eu eY hi J Qv
   obtain⟨ml,hm,k5,wU,Dr,got,m1,m2,m4⟩:=J
   rw[cP] at hi
   obtain⟨k,bJ,rfl⟩:=dA.mp hi
   have ob:=(cV.mp bJ).1
   have Ml:=fM.mem_iff.mp (cO bJ)
   obtain⟨s,eX⟩:=node k (g.lt k Ml)
   have DO: ∀a∈s.kids,aX a ml=some (ts.getD a t0):=λa ha=>by
    refine got a ?_
    have fS:a∈gw bl:=by
     rcases g.cl k Ml with q |q |q
     .cases q
     .cases q
     .exact q s eX a ha
    obtain⟨j,hj,rfl⟩:=Fn.mp (fM.mem_iff.mpr fS)
    have Ev:=(Mj eX _ ha).1
    have Zr:j<i:=Nat.lt_of_not_le λZs=>by
     rcases Nat.lt_or_eq_of_le Zs with q |q
     .have:=(E8.mp Wg) i j ob hj q
      rw[(cV.mp bJ).2] at this
      exact ax Ev (Nat.not_lt.mpr this)
     .subst q
      rw[(cV.mp bJ).2] at Ev
      exact Nat.lt_irrefl _ Ev
    exact Fn.mpr ⟨j,by rw[jA];exact Nat.lt_min.mpr ⟨Zr,hj⟩,ae.getElem_take⟩
   have B5:ga b nodes eY:=B.keep λc ω o e=>k5 c o e
   refine aN ?_
   intro mv
   refine cg (bR (e_tuple ?_))
   show ww
   refine bG 160 ?_
   show ww
   refine bI B5.at_ ?_
   show ww
   refine JW B5 hz eX ?_
   show ww
   refine⟨t2 (n:=1) (by decide),?_⟩
   refine bq (.type "tuple") ?_
   show ww
   refine fG [(S "made",Lo+1)] (w_seq ?_)
   refine bG 167 ?_
   show ww
   refine bI B5.at_ ?_
   show ww
   refine BS B5 hz eX ⟨_,.tup _,λi acc σ'=>σ'=eY/\acc=(s.kids.take i).map λa=>(ts.getD a t0).av,⟨rfl,rfl⟩,?_,?_⟩
   .intro C j a acc σ' hi hI ce cm Jv
    obtain⟨e1,e2⟩:=hI
    subst e1 e2
    rw[cP] at hi
    obtain⟨x,hx,rfl⟩:=dA.mp hi
    refine aN (iV (bS rfl (bh ?_)))
    show ww
    refine ge fq rfl (.ref hm) (λω ω=>rfl) wU (DO x (cO hx)) ⟨?_,rfl,?_⟩
    .rw[ar,jA];exact t3 (Nat.lt_of_le_of_lt (Nat.min_le_right _ _) (Nat.lt_of_le_of_lt s.ji (by decide)))
    .rw[fh,hx,bX];rfl
   .intro acc σ' hI
    obtain⟨e1,e2⟩:=hI
    subst e1 e2
    rw[ar,g8]
    have kS:(s.kids.map λa=>(ts.getD a t0).av).length<=2:=by rw[ar];exact s.ji
    show ww
    refine oJ (.lst _) (t2 (Nat.lt_of_le_of_lt kS (by decide))) (uy (Nat.le_trans (Nat.add_le_add_left kS 1) (t2 (n:=3) (by decide))) ?_)
    rw[<- Wc (λa=>ts.getD a t0) s]
    refine o5 fq (f:=aF.av) (λω ω ω ω=>rfl) ?_
    show ww
    have Zt:(bH k (ts.getD k t0) ml).length<=i+1:=Nat.le_trans (uM _ _ _) (Nat.succ_le_succ Dr)
    refine⟨md,ml,k,ts.getD k t0,rfl,rfl,by rw[tv eX],hm,wU,Nat.lt_of_le_of_lt Dr (Nat.lt_trans ob (Nat.lt_of_le_of_lt kz hz)),bE ⟨_,bB _ _ _,λc o e=>aP (k5 c o e) (bp e mN),kE wU,Zt,λx hx=>?_,m1,m2,m4⟩⟩
    rw[l9]
    rw[fh,bJ] at hx
    by_cases e:x=k
    .rw[if_pos e,e]
    .rw[aK e]
     rcases cy.mp hx with h |h
     .exact got x h
     .exact ax (aW.mp h) e
  .intro Eu eY J
   obtain⟨ml,hm,k5,wU,Dr,got,m1,m2,m4⟩:=J
   rw[ar,g8] at got
   refine bC (bh ?_)
   show ww
   refine ge fq rfl (.ref hm) (λω ω=>rfl) wU (got n0 (fM.mem_iff.mpr g.has)) ?_
   exact⟨σ,k5,q⟩
 .have e0:st=an++[x]:=by rw[e0,Nr]
  subst e0
  have hl:(an++[x]).length=an.length+1:=by rw[bQ];rfl
  have hx:=g.lt x (g.zQ x (iN _ (.head _)))
  obtain⟨s,eX⟩:=node x hx
  have kS:s.kids.length<=2:=s.ji
  rw[bX] at hs
  refine bS (decide_eq_true (by rw[hl];exact iP.mpr (Nat.succ_pos _))) ?_
  have Ew:aA cn sd (.list (an.map am)) sd=_:=bB _ _ _
  have Ex:aA cn sd (.list (an.map am)) bd=_:=aP hb bs
  have zT:dg σ (aA cn sd (.list (an.map am))):=λc o e=>aP (k3 c o e) (bp e (by
   cases q:σ sd with
   |none=>rfl
   |some o=>exact ax (k1 _ _ q) (by rw[wS];exactλz=>nomatch z)))
  refine oU (We nodes n0 σ bd sd b N x s) (λω ω=>rfl) (w_seq ?_)
  refine bG 167 ?_
  show ww
  refine bI B3.at_ ?_
  show ww
  refine dF (λω=>rfl) ?_
  show ww
  refine⟨_,IP (.ref hs),dI,?_⟩
  show ww
  refine IQ hs (by rw[ar];exact t3 (Nat.lt_of_le_of_lt (Nat.le_succ _) (by rw[hl] at wT;exact wT))) ?_
  show ww
  revert Ew Ex zT
  refine dP (aA cn sd _) λeO=>?_
  intro Ew Ex zT
  have B4:ga b nodes eO:=B.keep λc ω o e=>zT c o e
  refine BS B4 hz eX ⟨_,.tup _,?_,?_,?_⟩
  .refine⟨bl,an,⟨g.nd,g.lt,g.has,λk hk=>g.zQ k (gc _ hk),λk hk=>?_⟩,λa ha=>(by rw[pZ] at ha;cases ha),Ex,Ew,zT,by rw[<- e,hl,Nat.add_right_comm];exact Nat.lt_succ_self _,z,m1,m2,m3,m4⟩
   rcases g.cl k hk with q |q |q
   .cases q
   .rcases cy.mp q with q |q
    .exact .inr (.inl q)
    .exact .inl (congrArg some (aW.mp q).symm)
   .exact .inr (.inr q)
  .intro i a Eu eY hi J Qv
   obtain⟨bl,st,g,done,hb,hs,k5,e,z,m1,m2,m3,m4⟩:=J
   rw[cP] at hi
   obtain⟨k,bJ,rfl⟩:=dA.mp hi
   have wn:=(Mj eX k (cO bJ)).2
   refine aN ?_
   intro mv
   refine gv (bu rfl ?_)
   show ww
   refine ui fq rfl (.ref hb) g.nd ⟨_,rfl,?_⟩
   have JZ: ∀{Ey:ae (Nat×Unit)},(∀k,k∈gw bl->k∈gw Ey)->k∈gw Ey-> ∀a∈s.kids.take (i+1),a∈gw Ey:=λup hk a ha=>by
    rw[fh,bJ] at ha
    rcases cy.mp ha with h |h
    .exact up a (done a h)
    .rewrite [aW.mp h];exact hk
   cases hc:aX k bl with
   |some v=>
    refine bL rfl (bE (bE ⟨bl,st,g,JZ (λω h=>h) (aU.mpr ⟨_,eG hc,rfl⟩),hb,hs,k5,e,z,m1,m2,m3,m4⟩))
   |none=>
    have gl:=g.len
    have bj:bl.length<nodes.length:=by
     have g2:=(g.add wn hc).len
     rw[kA hc,bQ] at g2
     exact g2
    refine bS rfl (cg (e_bool (o5 fq (f:=mI) (λω ω ω ω=>rfl) ?_)))
    show ww
    refine⟨bd,bl,k,(),rfl,rfl,rfl,hb,g.nd,Nat.lt_of_le_of_lt gl hz,?_⟩
    have Ez:aA eY bd (.dict (aZ am mI (bH k () bl))) bd=_:=bB _ _ _
    have zU:aA eY bd (.dict (aZ am mI (bH k () bl))) sd=_:=aP hs bs.symm
    have k6:dg σ (aA eY bd (.dict (aZ am mI (bH k () bl)))):=λc o e=>aP (k5 c o e) (bp e zR)
    revert Ez zU k6
    refine dP (aA eY bd _) λwQ=>?_
    intro Ez zU k6
    have wT:st.length<1000:=Nat.lt_of_le_of_lt (Nat.le_trans (Nat.le_add_right _ _) (Nat.le_trans (Nat.le_of_lt e) z)) (by decide)
    refine fb (dF (λω=>rfl) ?_)
    show ww
    refine⟨_,ln (.ref zU),dI,?_⟩
    show ww
    have sN:σ sd=none:=by
     cases q:σ sd with
     |none=>rfl
     |some o=>exact ax (k1 _ _ q) (by rw[wS];exactλz=>nomatch z)
    refine qF zU (v:=k) rfl (t3 wT) ⟨fJ,bE (bE ⟨_,_,g.add wn hc,JZ (λj hj=>?_) ?_,aP Ez bs,bB _ _ _,λc o e=>aP (k6 c o e) (bp e sN),?_,z,m1,m2,m3,m4⟩)⟩
    .rw[kA hc];exact aU.mpr (by obtain⟨p,h1,h2⟩:=aU.mp hj;exact⟨p,gc _ h1,h2⟩)
    .rw[kA hc];exact aU.mpr ⟨(k,()),iN _ (.head _),rfl⟩
    .rw[kA hc,bQ,bQ]
     exact Xt e bj
  .intro Eu eY J
   obtain⟨bl,st,g,done,hb,hs,k5,e,z,m1,m2,m3,m4⟩:=J
   rw[ar,g8] at done
   refine bE ⟨_,e,bl,st,⟨g.nd,g.lt,g.has,g.zQ,λk hk=>?_⟩,hb,hs,k5,rfl,Nat.le_trans (Nat.le_of_lt e) z,m1,m2,m3,m4⟩
   rcases g.cl k hk with q |q |q
   .cases q
    exact .inr (.inr λs' h' a ha=>done a (by rw[eX] at h';cases h';exact ha))
   .exact .inr (.inl q)
   .exact .inr (.inr q)
end
section
noncomputable def PL.eA:PL->Bool
 | .f _=>false |_=>true
noncomputable def Tree.isVar:bP->Bool
 | .lf v=>v.eA |_=>false
noncomputable def Tree.bind{L L':Type}(τ:L->Tree L'):Tree L->Tree L'
 | .lf i=>τ i | .ng a=> .ng (a.bind τ) | .ad a b=> .ad (a.bind τ) (b.bind τ) | .ml a b=> .ml (a.bind τ) (b.bind τ)
noncomputable def Tree.c9{L:Type}:Tree L->ae L
 | .lf i=>[i] | .ng a=>a.c9 | .ad a b=>a.c9++b.c9 | .ml a b=>a.c9++b.c9
noncomputable abbrev bP.av(p:bP):AV:=Tree.av PL.s p
theorem Ih{L:Type}{t k:Tree L}(h:k∈t.kids){v:L}(hv:v∈k.c9):v∈t.c9:=by
 cases t with
 |lf i=>cases h
 |ng a=>rw[aW.mp h] at hv;exact hv
 |ad a b=>
  rcases aY.mp h with rfl |h
  .exact gc _ hv
  .rw[aW.mp h] at hv;exact iN _ hv
 |ml a b=>
  rcases aY.mp h with rfl |h
  .exact gc _ hv
  .rw[aW.mp h] at hv;exact iN _ hv
noncomputable def Tree.wV:bP->ae Nat->Nd
 | .lf (.f i),_=> .lf i
 | .lf _,_=> .lf .d0
 | .ng _,ks=> .ng (ks.getD 0 0)
 | .ad _ _,ks=> .ad (ks.getD 0 0) (ks.getD 1 0)
 | .ml _ _,ks=> .ml (ks.getD 0 0) (ks.getD 1 0)
theorem Ja{T:Nat->aF}(tT: ∀i,τ (.f i)= .lf i): ∀{p:bP} {ks:ae Nat},p.isVar=false->ks.map T=p.kids.map (Tree.bind τ)->(p.wV ks).kids=ks/\(p.wV ks).op=p.op PL.s/\((p.wV ks).map T).tm=p.bind τ
 | .lf (.f i),ks,_,h=>by
  have:ks=[]:=NI.mp h
  subst this;exact⟨rfl,rfl,(tT i).symm⟩
 | .ng a,ks,_,h=>by
  obtain⟨k,rfl⟩:=Fe.mp (by rw[<- ar (f:=T),h];rfl:ks.length=1)
  exact⟨rfl,rfl,congrArg Tree.ng (eC h).1⟩
 | .ad a b,ks,_,h=>by
  obtain⟨k,j,rfl⟩:=uY (by rw[<- ar (f:=T),h];rfl:ks.length=2)
  have h:=eC h
  refine⟨rfl,rfl,?_⟩
  show Tree.ad (T k) (T j)= .ad _ _
  rw[h.1,(eC h.2).1]
 | .ml a b,ks,_,h=>by
  obtain⟨k,j,rfl⟩:=uY (by rw[<- ar (f:=T),h];rfl:ks.length=2)
  have h:=eC h
  refine⟨rfl,rfl,?_⟩
  show Tree.ml (T k) (T j)= .ml _ _
  rw[h.1,(eC h.2).1]
variable{n:Nat}{af:Env}{m:au}{h:HA}{D:HD}{σ aw:ah}{Q:AV->ah->Prop}{M K:Nat}{ts:ae aF}
theorem yX(p:bP)(q:Q (.raw (.bool p.isVar)) σ):aT 3 (.ref 86) [p.av] σ Q:=by
 rw[show p.av= .tup (.str (p.op PL.s)::p.kids.map bP.av) from Tree.i6 _ _]
 refine fC (S "t") ?_
 intro Lo ev mv
 refine bC (IZ (vi rfl ?_))
 refine bq (.builtin "len") ?_
 show ww
 refine dL (.inl (.tup _)) (t1 (jj PL.s p)) ?_
 refine e_int (jt ⟨_,rfl,?_⟩)
 cases p with
 |lf v=>
  refine bS rfl (vi rfl (hG (lo:=none) (hi:=some 1) .none (.int 1 _ _) (bh ?_)))
  show ww
  refine dC (λω ω=>rfl) (c_ 0) (t1 (jj PL.s (.lf v))) rfl ?_
  cases v with
  |f i=>cases i<;>exact u5 (Nat.le_of_ble_eq_true rfl) (e_str (fW q))
  |a=>exact u5 (Nat.le_of_ble_eq_true rfl) (e_str (fW q))
  |b=>exact u5 (Nat.le_of_ble_eq_true rfl) (e_str (fW q))
  |c=>exact u5 (Nat.le_of_ble_eq_true rfl) (e_str (fW q))
 |ng a=>exact bL rfl q
 |ad a b=>exact bL rfl q
 |ml a b=>exact bL rfl q
def v9(M K:Nat)(D:HD)(ts:ae aF)(θ:ae (Str×Nat))(τ:PL->aF)(v:PL):Prop:=v.eA=true-> ∃k,aX v.s θ=some k/\k<D.par.length/\ts.getD k t0=τ v
noncomputable def Tree.ops:bP->Nat
 | .lf v=>if v.eA then 0 else 1 | .ng a=>a.ops+1 | .ad a b=>a.ops+b.ops+1 | .ml a b=>a.ops+b.ops+1
noncomputable def lS(l:ae bP):Nat:=(l.map Tree.ops).sum
theorem Hr{p:bP}(h:p.isVar=false):p.ops=lS p.kids+1:=by
 cases p with
 |lf v=>show(if v.eA then 0 else 1)=_;rw[aK (show ¬v.eA=true from by rw[show v.eA=false from h];decide)];rfl
 |ng a=>rfl
 |ad a b=>exact congrArg (λx=>a.ops+x+1) (Nat.add_zero b.ops).symm
 |ml a b=>exact congrArg (λx=>a.ops+x+1) (Nat.add_zero b.ops).symm
theorem Hs{l:ae bP}{a:bP}(h:l[i]? =some a):lS (l.take (i+1))=lS (l.take i)+a.ops:=by
 unfold lS;rw[fh,h,bX,rU];simp
theorem UT{l:ae bP}{a:bP}(h:l[i]? =some a):lS (l.take i)+a.ops<=lS l:=by
 have e:l.take (i+1)++l.drop (i+1)=l:=Ff _ _
 rw[<- Hs h]
 have:lS l=lS (l.take (i+1))+lS (l.drop (i+1)):=by
  unfold lS;rw[<- rU,<- bX,e]
 rw[this];exact Nat.le_add_right _ _
inductive Xu(M K:Nat)(h:HA)(D:HD)(ts:ae aF)(σ:ah)(τ:PL->aF)(ki:ae bP)(i:Nat)(acc:ae AV)(aw:ah):Prop
 |mk (D1:HD) (cU:ae aF) (ks:ae Nat) (T:HS h D1 aw) (O:bU M K D1 cU) (F:dU h D D1 σ aw) (g:jX (lS (ki.take i)) D D1 ts cU) (e:acc=ks.map am) (v:ks.map (λk=>cU.getD k t0)=(ki.take i).map (Tree.bind τ)) (l: ∀k∈ks,k<D1.par.length)
theorem Jb(hK:K<=9000000){px pd:Addr}{θ:ae (Str×Nat)}(tT: ∀i,τ (.f i)= .lf i)(mO:(θ.map (·.1)).Nodup): ∀(d:Nat) (p:bP) {D:HD} {ts:ae aF} {σ:ah} {Q:AV->ah->Prop},p.dep<d->HS h D σ->bU M K D ts->D.nodes.length+p.ops<=40->
  σ pd=some (.attrs [(S "heap",h.self)])-> ¬ij h D pd->(∀v∈p.c9,v9 M K D ts θ τ v)->
  (∀k D' dW σ',HS h D' σ'->bU M K D' dW->dU h D D' σ σ'->jX p.ops D D' ts dW->k<D'.par.length->dW.getD k t0=p.bind τ->Q (am k) σ')->aT (15+3*d) (.ref 557) [.obj px 572 pd,p.av,.ca (aZ AV.str am θ)] σ Q:=by
 intro d
 induction d with
 |zero=>intro t D ts σ Q hd;exact ax hd (Nat.not_lt_zero _)
 |succ d ih=>
  intro t D ts σ Q hd T O hn Mm Zu told q
  show aT ((15+3*d)+3) _ _ _ _
  refine mG (S "self") (S "pattern") (S "table") ?_
  intro Lo ev mv
  refine gv (mh (λω=>rfl) ?_)
  refine bY 86 ?_
  show ww
  refine(yX t ⟨_,rfl,?_⟩).less (by lia)
  have et:t.av= .tup (.str (t.op PL.s)::t.kids.map bP.av):=Tree.i6 _ _
  by_cases hv:t.isVar=true
  .refine bS hv (bC (bh ?_))
   show ww
   refine bh ?_
   show ww
   rw[et]
   refine dC (λω ω=>rfl) (c_ _) (t1 (jj PL.s t)) rfl ?_
   cases t with
   |lf v=>
    obtain⟨k,h1,h2,h3⟩:=told v (.head _) hv
    exact ge ef rfl (.ca _) (λω ω=>rfl) mO h1 (q k D ts σ T O .refl .refl h2 h3)
   |ng a=>cases hv
   |ad a b=>cases hv
   |ml a b=>cases hv
  have hv:t.isVar=false:=by simpa using hv
  rw[Hr hv] at hn
  refine bL hv (bE (bC ?_))
  refine bG 374 ?_
  refine aS Mm ?_
  refine bI T.at_ ?_
  show ww
  refine bh ?_
  show ww
  rw[et]
  refine dC (λω ω=>rfl) (c_ _) (t1 (jj PL.s t)) rfl ?_
  show ww
  refine fG [(S "table",Lo+2),(S "self",Lo+1)] (w_seq (hG (lo:=some 1) (hi:=none) (.int 1 _ _) .none ?_))
  show ww
  rw[et]
  refine jD (Nat.succ_le_succ (Nat.zero_le _)) (t2 (jj PL.s t)) ?_
  refine⟨_,.tup _,λi acc σ'=>Xu M K h D ts σ τ t.kids i acc σ',⟨D,ts,[],T,O,.refl,.refl,rfl,rfl,λk hk=>by cases hk⟩,?_,?_⟩
  .intro C i b acc aw hi hI ce cm Jv
   obtain⟨D1,cU,ks,T1,O1,F1,g1,rfl,v1,l1⟩:=hI
   have hi:(t.kids.map bP.av)[i]? =some b:=hi
   rw[cP] at hi
   obtain⟨u,hu,rfl⟩:=dA.mp hi
   have iI:=UT hu
   have zV:=cO hu
   refine aN (iV (bS rfl ?_))
   refine bG 557 ?_
   show ww
   have fp:=F1 _ _ Mm Zu
   refine bI fp.1 ?_
   show ww
   refine ih u (Nat.lt_of_lt_of_le (Tree.nG zV) (Nat.le_of_lt_succ hd)) T1 O1 (by have:=g1.len;lia) fp.1 fp.2 (λv wh hV=>?_) λk D2 ez a_ T2 O2 F2 g2 kS rD=>?_
   .obtain⟨k,h1,h2,h3⟩:=told v (Ih zV wh) hV
    exact⟨k,h1,Nat.lt_of_lt_of_le h2 (by rw[O.pt,O1.pt];exact g1.le),(g1.ts k (by rw[O.tt,<- O.pt];exact h2)).trans h3⟩
   have tl:ts.length<=cU.length:=by rw[O.tt,O1.tt];exact g1.le
   have kl:ks.length<=i:=by rw[<- ar (f:=λk=>cU.getD k t0),v1,ar,jA];exact Nat.min_le_left _ _
   refine⟨?_,D2,ez,ks++[k],T2,O2,F1.trans F2,by rw[Hs hu];exact g1.trans g2 tl,by rw[bX];rfl,?_,λx hx=>?_⟩
   .rw[ar];exact t3 (Nat.lt_of_le_of_lt (Nat.le_trans kl (Nat.le_of_lt (cV.mp hu).1)) (Nat.lt_of_le_of_lt (oz t) (by decide)))
   .have e1:ks.map (λk=>ez.getD k t0)=ks.map (λk=>cU.getD k t0):=pX λx hx=>g2.ts x (by rw[O1.tt,<- O1.pt];exact l1 x hx)
    rw[fh,hu,bX,e1,v1,bX]
    exact congrArg (_++[·]) rD
   .rcases cy.mp hx with hx |hx
    .exact Nat.lt_of_lt_of_le (l1 x hx) (by rw[O1.pt,O2.pt];exact g2.le)
    .rw[aW.mp hx];exact kS
  .intro acc aw hI
   obtain⟨D1,cU,ks,T1,O1,F1,g1,rfl,v1,l1⟩:=hI
   have e0:((AV.str (t.op PL.s)::t.kids.map bP.av).drop 1).length=t.kids.length:=ar _
   rw[e0,g8] at v1 g1
   obtain⟨n1,n2,n3⟩:=Ja tT hv v1
   show ww
   have g:=g1.len
   have A:=I9 (Q:=λr σ'=>Q r σ') T1 O1 (by lia) hK (s:=t.wV ks) (a:= .lst ((t.wV ks).kids.map am)) (.lst _) (λk hk=>l1 k (n1▸hk)) λk D2 ez a_ T2 O2 F2 g2 wR=>?_
   .rw[n2,n1] at A
    exact A.less (Nat.le_add_right _ _)
   .have tl:ts.length<=cU.length:=by rw[O.tt,O1.tt];exact g1.le
    refine q k D2 ez a_ T2 O2 (F1.trans F2) (by rw[Hr hv];exact g1.trans g2 tl) (yB O2 wR).1 ?_
    rw[tm_at O2 wR]
    have e1:ks.map (λk=>ez.getD k t0)=t.kids.map (Tree.bind τ):=(pX λx hx=>g2.ts x (by rw[O1.tt,<- O1.pt];exact l1 x hx)).trans v1
    exact(Ja tT hv e1).2.2
end
noncomputable def Tree.pre{L:Type}:Tree L->ae (Tree L)
 | .lf i=>[.lf i] | .ng a=> .ng a::a.pre | .ad a b=> .ad a b::(a.pre++b.pre) | .ml a b=> .ml a b::(a.pre++b.pre)
noncomputable def qP{L:Type}(l:ae (Tree L)):ae (Tree L):=(l.map Tree.pre).flatten
theorem Sb{L:Type}(t:Tree L):t.pre=t::qP t.kids:=by
 cases t with
 |lf i=>rfl
 |ng a=>exact congrArg (Tree.ng a:: ·) (lT _).symm
 |ad a b=>exact congrArg (λx=>Tree.ad a b::(a.pre++x)) (lT _).symm
 |ml a b=>exact congrArg (λx=>Tree.ml a b::(a.pre++x)) (lT _).symm
theorem qs{L:Type}(t:Tree L):t.pre.length=t.sz:=by
 induction t with
 |lf i=>rfl
 |ng a ih=>exact congrArg Nat.succ ih
 |ad a b ia ib=>exact congrArg Nat.succ (bQ.trans (ia▸ib▸rfl))
 |ml a b ia ib=>exact congrArg Nat.succ (bQ.trans (ia▸ib▸rfl))
theorem QN{L:Type}{l:ae (Tree L)}{a:Tree L}(h:l[i]? =some a):qP (l.take (i+1))=qP (l.take i)++a.pre:=by
 unfold qP;rw[fh,h,bX,ae.flatten_append];simp
theorem Sc{L:Type}(l:ae (Tree L)):(qP l).length=jz l:=by
 unfold qP jz
 rw[ae.length_flatten,cQ]
 exact congrArg ae.sum (pX λt ω=>qs t)
theorem Ht: ∀(l:ae AV) (i0:aj) (i:Nat) {x:AV},(sF i0 l)[i]? =some x-> ∃a,l[i]? =some a/\x= .tup [.int (i0+i),a]
 |a::r,i0,0,x,h=>⟨a,rfl,(aB.some.inj h).symm.trans (by rewrite [show((0:Nat):aj)=0 from rfl,aj.add_zero];rfl)⟩
 |a::r,i0,i+1,x,h=>by
  obtain⟨b,h1,h2⟩:=Ht r (i0+1) i h
  refine⟨b,h1,?_⟩
  rw[h2,show i0+1+(i:aj)=i0+((i+1:Nat):aj) from by lia]
theorem Hu: ∀(l:ae AV) (i0:aj),(sF i0 l).length=l.length
 |[],_=>rfl
 |a::r,i0=>congrArg Nat.succ (Hu r _)
section
variable{L:Type}(ls:L->Str)
noncomputable def tg(p:ae AV×Tree L):AV:= .tup [.tup p.1,p.2.av ls]
structure UU(t:Tree L)(ps:ae (ae AV×Tree L))(d:Nat):Prop where
 pre:ps.map (·.2)=t.pre
 path: ∀p∈ps,p.1.length<d
inductive Wh(σ:ah)(fd:Addr)(t:Tree L)(d:Nat)(i:Nat)(m:au)(aw:ah):Prop
 |mk (ps:ae (ae AV×Tree L)) (hf:aw fd=some (.list (ps.map (tg ls)))) (k:dg σ aw) (e:ps.map (·.2)=t::qP (t.kids.take i)) (z: ∀p∈ps,p.1.length<d+1) (m1:m (S "found")=some (.raw (.ref fd)))
variable{ls}
theorem Ii: ∀(d:Nat) (t:Tree L) {σ:ah} {Q:AV->ah->Prop},t.dep<d->d<900->t.sz<=16000000->
  (∀ps,UU t ps d->Q (.lst (ps.map (tg ls))) σ)->aT (3*d) (.ref 96) [t.av ls] σ Q:=by
 intro d
 induction d with
 |zero=>intro t σ Q hd;exact ax hd (Nat.not_lt_zero _)
 |succ d ih=>
  intro t σ Q hd pQ hz q
  show aT (3*d+3) _ _ _ _
  refine mi ?_
  have et:=Tree.i6 ls t
  have tl:=jj ls t
  refine fC (S "t") ?_
  intro Lo ev mv
  refine cg (sB ?_)
  refine l_cons (e_tuple (l_cons (e_tuple (l_nil ⟨Nat.zero_le _,?_⟩))))
  show ww
  refine⟨t2 (n:=2) (by decide),l_nil ⟨t2 (n:=1) (by decide),λfd kR=>aN ?_⟩⟩
  have rE:aA σ fd (.list [.tup [.tup [],t.av ls]]) fd=some (.list ([([],t)].map (tg ls))):=bB _ _ _
  have k0:dg σ (aA σ fd (.list [.tup [.tup [],t.av ls]])):=iR kR
  revert rE k0
  refine dP (aA σ fd _) λfU=>?_
  intro rE k0
  refine oU (Wh ls σ fd t d) (λω ω=>rfl) (w_enum (λω=>rfl) (ut (v:= .type "enumerate") ⟨rfl,?_⟩ (by kernel_rfl) rfl))
  refine l_cons (hG (lo:=some 1) (hi:=none) (.int 1 _ _) .none ?_)
  show ww
  rw[et]
  refine jD (Nat.succ_le_succ (Nat.zero_le _)) (t2 tl) (l_nil ⟨_,rfl,?_,?_,?_⟩)
  .exact⟨_,rE,k0,by rw[pZ];rfl,(λp hp=>by rw[aW.mp hp];exact Nat.succ_pos _),rfl⟩
  .intro i x m' aw hi I Qv
   obtain⟨ps,hf,k1,e,z,m1⟩:=I
   obtain⟨a,ha,rfl⟩:=Ht _ _ _ hi
   have ha:(t.kids.map (Tree.av ls))[i]? =some a:=ha
   rw[cP] at ha
   obtain⟨u,hu,rfl⟩:=dA.mp ha
   have zV:=cO hu
   have usz:=I_ hu
   have tsz:=BX t
   have ul:u.sz<=16000000:=by lia
   have pl:ps.length=jz (t.kids.take i)+1:=by
    rw[<- ar (f:=λp:ae AV×Tree L=>p.2),e,gh,Sc]
   refine kC (.tup _) (eR (aN (eR (aN (kH ?_)))))
   refine fb (dF (λω=>rfl) ?_)
   show ww
   refine⟨_,xZ (.ref hf),dI,?_⟩
   refine l_cons (fG [(S "k",Lo+1)] (w_seq ?_))
   refine bY 96 ?_
   show ww
   refine ih u (Nat.lt_of_lt_of_le (Tree.nG zV) (Nat.le_of_lt_succ hd)) (Nat.lt_of_succ_lt pQ) ul λus zW=>?_
   have Mn:us.length=u.sz:=by rw[<- ar (f:=λp:ae AV×Tree L=>p.2),zW.pre,qs]
   refine⟨_,.lst _,qj (L:=us) (f:=tg ls) (λp=>tg ls (.int (0+(i:aj))::p.1,p.2)) (by rw[Mn,eZ];exact Nat.le_trans ul (by decide)) (λC p hp=>?_) ?_⟩
   .have mU:=zW.path p hp
    refine kC (.tup _) (eR (aN (eR (aN (kH ?_)))))
    refine e_tuple (l_cons (bR (e_tuple ?_)))
    show ww
    refine⟨t2 (n:=1) (by decide),?_⟩
    show ww
    refine uy (Nat.le_trans (Nat.add_le_add_left (Nat.le_of_lt (Nat.lt_trans mU (Nat.lt_of_succ_lt pQ))) 1) (t2 (n:=901) (by decide))) ?_
    show ww
    exact⟨t2 (n:=2) (by decide),⟨rfl,rfl⟩⟩
   .skip
    show ww
    refine x0 hf (.lst _) (by rw[ar,ar,pl,Mn,eZ];lia) ⟨fJ,bE ?_⟩
    refine⟨ps++us.map λp=>(.int (0+(i:aj))::p.1,p.2),?_,λc o h=>aP (k1 c o h) (bp h kR),?_,?_,m1⟩
    .rw[bX,cQ];exact bB _ _ _
    .rw[bX,e,cQ,QN hu,<- zW.pre];rfl
    .intro p hp
     rcases cy.mp hp with hp |hp
     .exact z p hp
     .obtain⟨p',cZ,rfl⟩:=aU.mp hp
      exact Nat.succ_lt_succ (zW.path p' cZ)
  .intro m' aw I
   obtain⟨ps,hf,k1,e,z,m1⟩:=I
   rw[Hu,show((AV.str (t.op ls)::t.kids.map (Tree.av ls)).drop 1).length=t.kids.length from ar _,g8] at e
   refine bC (nQ ?_)
   show ww
   exact⟨_,_,.list hf,σ,λc o h=>(iY _ (bp h kR)).trans (k1 c o h),q ps ⟨e.trans (Sb t).symm,z⟩⟩
end
section
section
variable{L:Type}{ls:L->Str}{n:Nat}{af:Env}{m:au}{σ aw:ah}{Q:AV->ah->Prop}
theorem o6{f g:β->AV}{l:ae β}{target iter elt:Expr}{pos:Pos}(cl:ae (Str×Addr))(hz:l.length<=sizeLine)
  (h:iy n af target iter m σ λL ap=>L=l.map f/\(∀C (x:β),x∈l-> ∀(R:AV->Prop),R (g x)->fw n (fL scope cl af C) target (f x) (oX scope af m λω=>none) ap λm₁ aO=>aO=ap/\aQ n (fL scope cl af C) elt m₁ aO λb dZ=>dZ=ap/\R b)/\Q (.lst (l.map g)) ap) (Hc:kI af m scope cl:=by exact wv) (hs: ∀x,pure x=g0 iter af x:=by exactλω=>rfl):
  aQ n af (.ListComp elt [⟨target,iter,[],0⟩] scope pos) m σ Q:=by
 refine fG (H:=Hc) (hs:=hs) cl λA X P s hA T=>bT (h A X P s hA T) (λx aH h=>bT h (λiv aV ⟨P',σ',L',Z,fp,z1,z2,z3,z4,z5,e,hb,q⟩=>⟨P',σ',L',Z,fp,z1,z2,z3,z4,z5,λi acc fD=>fD=σ'/\acc=(l.take i).map g,⟨rfl,rfl⟩,?_,?_⟩) λω ω e=>e) λω ω e=>e
 .intro C i a acc a_ hi hI
  obtain⟨e1,e2⟩:=hI
  subst e e1 e2
  rw[cP] at hi
  obtain⟨x,hx,rfl⟩:=dA.mp hi
  have hb:=hb C x (cO hx) (λb=>b=g x) rfl
  refine fw.mono hb λm₁ ap h=>iV (bS rfl (h.2.mono λb dZ h'=>⟨?_,h'.1,?_⟩))
  .rw[ar,jA]
   exact Nat.lt_of_lt_of_le (Nat.lt_of_le_of_lt (Nat.min_le_left _ _) (cV.mp hx).1) hz
  .rw[h'.2,fh,hx,bX];rfl
 .intro acc a_ hI
  obtain⟨e1,e2⟩:=hI
  subst e e1 e2
  rw[ar,g8];exact q
theorem oO{Q:AF->au->ah->Prop}{r:ae Stmt}{px pos pos':Pos}{target iter elt:Expr}{ifs:ae Expr}(cl:ae (Str×Addr))
  (h:iy n af target iter m σ (yn n af scope cl target elt ifs m λacc aO=>ch n af r (fN m x (.lst acc)) aO Q)) (H:kI af m scope cl:=by exact wv) (hs: ∀x,pure x=g0 iter af x:=by exactλω=>rfl) (hx:some .local=af.kindOf x:=by exact rfl)
  (q8:pure true=uw (.ListComp elt [⟨target,iter,ifs,0⟩] scope pos) (some (.Name x px)) pos'.line af:=by exact rfl):
  ch n af (.Assign [.Name x px] (.ListComp elt [⟨target,iter,ifs,0⟩] scope pos) pos'::r) m σ Q:=jW (Uv cl H (λx=>(hs x).symm) hx.symm q8.symm h)
noncomputable def sW(ls:L->Str)(t:Tree L):AV:= .tup [am t.sz,.tup (t.pre.map λu=> .str (u.op ls)),.tup (t.pre.map λu=>am u.kids.length)]
theorem Wi(d:Nat)(t:Tree L)(hd:t.dep<d)(pQ:d<900)(hz:t.sz<=16000000)(q:Q (sW ls t) σ):aT (3*d+3) (.ref 101) [t.av ls] σ Q:=by
 refine fC (S "t") ?_
 intro Lo ev mv
 have sz:t.pre.length<=sizeLine:=by rw[qs,eZ];exact Nat.le_trans hz (by decide)
 refine oO [] (w_seq ?_)
 refine bY 96 ?_
 show ww
 refine Ii d t hd pQ hz λps ok=>?_
 have pl:ps.length=t.sz:=by rw[<- ar (f:=λp:ae AV×Tree L=>p.2),ok.pre,qs]
 refine⟨_,.lst _,qj (L:=ps) (f:=tg ls) (λp=>p.2.av ls) (by rw[pl,eZ];exact Nat.le_trans hz (by decide)) (λC p hp=>?_) ?_⟩
 .refine kC (.tup _) (eR (aN (eR (aN (kH ?_)))))
  show ww
  exact⟨rfl,rfl⟩
 rw[show(ps.map λp=>p.2.av ls)=t.pre.map (Tree.av ls) from by rw[<- ok.pre,cQ];rfl]
 refine bC (e_tuple ?_)
 show ww
 refine bq (.builtin "len") ?_
 show ww
 refine dL (.inr (.lst _)) (by rw[ar,qs];exact Nat.lt_of_le_of_lt hz (by decide)) ?_
 rw[ar,qs]
 show ww
 refine bq (.type "tuple") ?_
 show ww
 refine o6 (f:=Tree.av ls) (g:=λu=> .str (u.op ls)) (l:=t.pre) [] sz (w_seq ?_)
 show ww
 refine⟨_,.lst _,rfl,λC u hu R hR=>aN ⟨rfl,bh ?_⟩,?_⟩
 .show ww
  rw[Tree.i6 ls u]
  exact dC (λω ω=>rfl) (c_ _) (t1 (jj ls u)) rfl ⟨rfl,hR⟩
 show ww
 refine oJ (.lst _) (by rw[ar];exact sz) ?_
 show ww
 refine bq (.type "tuple") ?_
 show ww
 refine o6 (f:=Tree.av ls) (g:=λu=>am u.kids.length) (l:=t.pre) [] sz (w_seq ?_)
 show ww
 refine⟨_,.lst _,rfl,λC u hu R hR=>aN ⟨rfl,bR ?_⟩,?_⟩
 .refine bq (.builtin "len") ?_
  show ww
  rw[Tree.i6 ls u]
  refine dL (.inl (.tup _)) (t1 (jj ls u)) ?_
  show ww
  refine mq ⟨rfl,?_⟩
  rw[gh,ar,x8];exact hR
 show ww
 refine oJ (.lst _) (by rw[ar];exact sz) ?_
 show ww
 exact⟨t2 (n:=3) (by decide),q⟩
end
noncomputable def yC(c:aj)(t:aF):AV:= .tup [.int c,sW Lf.s t,t.av]
variable{σ:ah}{Q:AV->ah->Prop}
theorem UV(d:Nat)(c:aj)(t:aF)(hd:t.dep<d)(pQ:d<900)(hz:t.sz<=16000000)(q:Q (yC c t) σ):aT (3*d+6) (.ref 214) [.int c,t.av] σ Q:=by
 refine eL (S "cost") (S "term") ?_
 intro Lo ev mv
 refine bC (e_tuple ?_)
 show ww
 refine bY 101 ?_
 show ww
 refine Wi d t hd pQ hz ?_
 show ww
 exact⟨t2 (n:=3) (by decide),q⟩
end
mutual
theorem Jc: ∀a:AV,cN a a=false
 | .int i=>cu (aj.lt_irrefl i)
 | .str i=>cu (ae.lt_irrefl _)
 | .tup l=>Ij l
 | .raw _=>rfl
 | .lst _=>rfl
 | .ca _=>rfl
 | .ins _ _=>rfl
 | .obj _ _ _=>rfl
 | .view _=>rfl
theorem Ij: ∀l:ae AV,jS l l=false
 |[]=>rfl
 |a::l=>(if_pos rfl).trans (Ij l)
end
theorem lt_int{i:aj}(h:cN (.int i) b=true){C:AV->Prop}(k: ∀j,i<j->C (.int j)):C b:=by
 cases b with
 |int j=>exact k _ (k9 h)
 |_=>exact ax h Bool.false_ne_true
theorem lt_str{i:Str}(h:cN (.str i) b=true){C:AV->Prop}(k: ∀j,cN (.str i) (.str j)=true->C (.str j)):C b:=by
 cases b with
 |str j=>exact k _ h
 |_=>exact ax h Bool.false_ne_true
theorem Jd(h:cN (.tup l) b=true){C:AV->Prop}(k: ∀r,jS l r=true->C (.tup r)):C b:=by
 cases b with
 |tup j=>exact k _ h
 |_=>exact ax h Bool.false_ne_true
def tU(a:AV):Prop:= ∀b c,cN a b=true->cN b c=true->cN a c=true
def wW(l:ae AV):Prop:= ∀b c,jS l b=true->jS b c=true->jS l c=true
theorem UW(i:Str):tU (.str i):=λb c h1=>lt_str h1 (C:=λb=>cN b c=true->_) λj h1 h2=>lt_str h2 (C:=λc=>cN (.str i) c=true) λk h2=>by
 exact decide_eq_true (ae.lt_trans (k9 h1) (k9 h2))
theorem UX(i:aj):tU (.int i):=λb c h1=>lt_int h1 (C:=λb=>cN b c=true->_) λj h1 h2=>lt_int h2 (C:=λc=>cN (.int i) c=true) λk h2=>by
 exact decide_eq_true (aj.lt_trans h1 h2)
theorem UY(h:wW l):tU (.tup l):=λb c h1=>Jd h1 (C:=λb=>cN b c=true->_) λj h1 h2=>Jd h2 (C:=λc=>cN (.tup l) c=true) λk h2=>by
 exact h _ _ h1 h2
theorem sX(h: ∀b,cN a b=false):tU a:=λb ω h1=>nomatch (h b).symm.trans h1
theorem BY{r:ae AV}:jS (a::l) (b::r)=true↔(a=b/\jS l r=true)\/(a≠b/\cN a b=true):=by
 show(if a=b then jS l r else cN a b)=true↔_
 by_cases e:a=b
 .rw[if_pos e];exact⟨λh=> .inl ⟨e,h⟩,λh=>h.elim (·.2) λh=>ax e h.1⟩
 .rw[aK e];exact⟨λh=> .inr ⟨e,h⟩,λh=>h.elim (λh=>ax h.1 e) (·.2)⟩
theorem UZ:wW []:=λb c h1 h2=>by
 cases b with
 |nil=>exact nomatch h1
 |cons b r=>cases c with
  |nil=>exact nomatch h2
  |cons c t=>rfl
theorem TP(h:tU a)(k:wW l):wW (a::l):=λb c h1 h2=>by
 cases b with
 |nil=>exact nomatch h1
 |cons b r=>cases c with
  |nil=>exact nomatch h2
  |cons c t=>
   refine BY.mpr ?_
   rcases BY.mp h1 with⟨e,h1⟩ |⟨e,h1⟩<;>rcases BY.mp h2 with⟨e',h2⟩ |⟨e',h2⟩
   .exact .inl ⟨e.trans e',k _ _ h1 h2⟩
   .subst e;exact .inr ⟨e',h2⟩
   .subst e';exact .inr ⟨e,h1⟩
   .exact .inr ⟨λq=>(by subst q;exact nomatch (Jc a).symm.trans (h _ _ h1 h2)),h _ _ h1 h2⟩
mutual
theorem Je: ∀a:AV,tU a
 | .int i=>UX i
 | .str i=>UW i
 | .tup l=>UY (Jf l)
 | .raw _=>sX λω=>rfl
 | .lst _=>sX λω=>rfl
 | .ca _=>sX λω=>rfl
 | .ins _ _=>sX λω=>rfl
 | .obj _ _ _=>sX λω=>rfl
 | .view _=>sX λω=>rfl
theorem Jf: ∀l:ae AV,wW l
 |[]=>UZ
 |a::l=>TP (Je a) (Jf l)
end
theorem Wj{c:AV}(h1:cN a b=true)(h2:cN b c=true):cN a c=true:=Je a b c h1 h2
noncomputable abbrev cH:=ae (Str×Nat)
noncomputable def gb(cs:cH)(x:Str):Nat:=(aX x cs).getD 1
noncomputable def bN(cs:cH):aF->Nat
 | .lf i=>gb cs i.s
 | .ng a=>gb cs (S "neg")+bN cs a
 | .ad a b=>gb cs (S "add")+(bN cs a+bN cs b)
 | .ml a b=>gb cs (S "mul")+(bN cs a+bN cs b)
structure o7(cs:cH):Prop where
 nd:(cs.map (·.1)).Nodup
 lo: ∀x,1<=gb cs x
 hi: ∀x,gb cs x<=3
theorem kX{C:ae α->Prop}{l:ae α}(h:l.length<=2)(c0:C [])(c1: ∀a,C [a])(c2: ∀a b,C [a,b]):C l:=by
 cases l with
 |nil=>exact c0
 |cons a l=>cases l with
  |nil=>exact c1 a
  |cons b l=>cases l with
   |nil=>exact c2 a b
   |cons c l=>exact ax h (Nat.not_le.mpr (Nat.succ_le_succ (Nat.succ_le_succ (Nat.succ_le_succ (Nat.zero_le _)))))
theorem Xv{f:α->Nat}{b:Nat}{l:ae α}(h:l.length<=2)(e: ∀v∈l,f v<=b):(l.map f).sum<=b+b:=kX (C:=λl=>(∀v∈l,f v<=b)->(l.map f).sum<=b+b) h (λω=>Nat.zero_le _) (λa e=>Nat.le_trans (e a (.head _)) (Nat.le_add_left b b)) (λa c e=>Nat.add_le_add (e a (.head _)) (e c (.tail _ (.head _)))) e
theorem Xw{f:α->Nat}{b:Nat}{l:ae α}(h:l.length<=2)(p:3<=b)(e: ∀v∈l,f v+3<=b):(l.map f).sum+6<=b+b:=kX (C:=λl=>(∀v∈l,f v+3<=b)->(l.map f).sum+6<=b+b) h (λω=>(Nat.add_le_add p p:3+3<=b+b)) (λa e=>(Nat.add_le_add (e a (.head _)) p:f a+3+3<=b+b)) (λa c e=>Nat.le_trans (Nat.le_of_eq (Nat.add_add_add_comm (f a) (f c) 3 3)) (Nat.add_le_add (e a (.head _)) (e c (.tail _ (.head _))))) e
theorem sx(cs:cH)(t:aF):bN cs t=gb cs (t.op Lf.s)+(t.kids.map (bN cs)).sum:=by
 cases t with
 |lf i=>rfl
 |ng a=>rfl
 |ad a b=>rfl
 |ml a b=>rfl
section
variable{cs:cH}(hc:o7 cs)
include hc
theorem sy: ∀t:aF,t.sz<=bN cs t
 | .lf i=>hc.lo _
 | .ng a=>by show a.sz+1<=gb cs (S "neg")+bN cs a;rw[Nat.add_comm];exact Nat.add_le_add (hc.lo _) (sy a)
 | .ad a b=>by show a.sz+b.sz+1<=gb cs (S "add")+(bN cs a+bN cs b);rw[Nat.add_comm];exact Nat.add_le_add (hc.lo _) (Nat.add_le_add (sy a) (sy b))
 | .ml a b=>by show a.sz+b.sz+1<=gb cs (S "mul")+(bN cs a+bN cs b);rw[Nat.add_comm];exact Nat.add_le_add (hc.lo _) (Nat.add_le_add (sy a) (sy b))
theorem Hv{t k:aF}(h:k∈t.kids):bN cs k<bN cs t:=by
 have lo:=hc.lo
 cases t with
 |lf i=>cases h
 |ng a=>rewrite [aW.mp h];exact Nat.lt_add_of_pos_left (lo _)
 |ad a b=>
  have q:bN cs a+bN cs b<bN cs (.ad a b):=Nat.lt_add_of_pos_left (lo _)
  rcases aY.mp h with rfl |h
  .exact Nat.lt_of_le_of_lt (Nat.le_add_right _ _) q
  .rewrite [aW.mp h];exact Nat.lt_of_le_of_lt (Nat.le_add_left _ _) q
 |ml a b=>
  have q:bN cs a+bN cs b<bN cs (.ml a b):=Nat.lt_add_of_pos_left (lo _)
  rcases aY.mp h with rfl |h
  .exact Nat.lt_of_le_of_lt (Nat.le_add_right _ _) q
  .rewrite [aW.mp h];exact Nat.lt_of_le_of_lt (Nat.le_add_left _ _) q
end
inductive Dv(cs:cH)(r:Nat->Nat->Prop):ae Nat->Nat->aF->Prop
 |mk (dQ:ae Nat) (c:Nat) (t:aF) (hn:c∉dQ) (hr:r c (bN cs t)) (tV:aF->Nat) (hk: ∀k∈t.kids,Dv cs r (c::dQ) (tV k) k):Dv cs r dQ c t
theorem Dv.mk'{cs:cH}{r:Nat->Nat->Prop}(dQ:ae Nat)(c:Nat)(t:aF)(hn:c∉dQ)(hr:r c (bN cs t))(hk: ∀k∈t.kids,∃d,Dv cs r (c::dQ) d k):Dv cs r dQ c t:=
 .mk dQ c t hn hr (λk=>if h: ∃d,Dv cs r (c::dQ) d k then h.choose else 0) λk bJ=>by
  have h:=hk k bJ
  rw[dif_pos h];exact h.choose_spec
theorem Dv.mono{cs:cH}{r r':Nat->Nat->Prop}(h: ∀c k,r c k->r' c k){dQ:ae Nat}{c:Nat}{t:aF}(v:Dv cs r dQ c t):Dv cs r' dQ c t:=by
 induction v with
 |mk dQ c t hn hr tV hk ih=>exact .mk dQ c t hn (h _ _ hr) tV ih
theorem Dv.weak{cs:cH}(hc:o7 cs){r:Nat->Nat->Prop}{e:Nat}{dQ:ae Nat}{c:Nat}{t:aF}(v:Dv cs r dQ c t)(h: ∀k,r e k->bN cs t<k):Dv cs r (dQ++[e]) c t:=by
 induction v with
 |mk dQ c t hn hr tV hk ih=>
  refine .mk _ c t (λq=>?_) hr tV λk bJ=>?_
  .rcases cy.mp q with q |q
   .exact hn q
   .rw[aW.mp q] at hr
    exact Nat.lt_irrefl _ (h _ hr)
  .exact ih k bJ λj hj=>Nat.lt_trans (Hv hc bJ) (h j hj)
theorem Dv.dep{cs:cH}{r:Nat->Nat->Prop}{N:Nat}(hr: ∀c k,r c k->c<N){dQ:ae Nat}{c:Nat}{t:aF}(v:Dv cs r dQ c t)(h1:dQ.Nodup)(h2: ∀x∈dQ,x<N):t.dep+dQ.length<N:=by
 induction v with
 |mk dQ c t hn wy tV hk ih=>
  have n1:(c::dQ).Nodup:=fF.mpr ⟨hn,h1⟩
  have n2: ∀x∈c::dQ,x<N:=λx hx=>(aY.mp hx).elim (λe=>e▸hr _ _ wy) (h2 x)
  have n3:=nt N n1 n2
  rw[gh] at n3
  have K: ∀k∈t.kids,k.dep+1+dQ.length<N:=λk bJ=>by
   have:=ih k bJ n1 n2
   rw[gh] at this
   rw[Nat.add_assoc,Nat.add_comm 1];exact this
  cases t with
  |lf i=>show 0+dQ.length<N;rw[Nat.zero_add];exact n3
  |ng a=>exact K a (.head _)
  |ad a b=>
   show max a.dep b.dep+1+dQ.length<N
   rcases Nat.le_total a.dep b.dep with l |l
   .rw[Nat.max_eq_right l];exact K b (.tail _ (.head _))
   .rw[Nat.max_eq_left l];exact K a (.head _)
  |ml a b=>
   show max a.dep b.dep+1+dQ.length<N
   rcases Nat.le_total a.dep b.dep with l |l
   .rw[Nat.max_eq_right l];exact K b (.tail _ (.head _))
   .rw[Nat.max_eq_left l];exact K a (.head _)
noncomputable def nV:Nat->ae aF
 |0=>[.lf .d0,.lf .d1,.lf .d2,.lf .d3,.lf .d4,.lf .vx]
 |d+1=>nV d++(nV d).map .ng++(nV d).flatMap (λa=>(nV d).map (.ad a))++(nV d).flatMap (λa=>(nV d).map (.ml a))
theorem TQ(d:Nat)(i:Lf): .lf i∈nV d:=by
 induction d with
 |zero=>
  cases i
  .exact .head _
  .exact .tail _ (.head _)
  .exact .tail _ (.tail _ (.head _))
  .exact .tail _ (.tail _ (.tail _ (.head _)))
  .exact .tail _ (.tail _ (.tail _ (.tail _ (.head _))))
  .exact .tail _ (.tail _ (.tail _ (.tail _ (.tail _ (.head _)))))
 |succ d ih=>exact gc _ (gc _ (gc _ ih))
theorem TR(t:aF): ∀(d:Nat),t.dep<=d->t∈nV d:=by
 induction t with
 |lf i=>exactλd ω=>TQ d i
 |ng a ia=>
  intro d h
  cases d with
  |zero=>exact ax h (Nat.not_succ_le_zero _)
  |succ d=>exact gc _ (gc _ (iN _ (Ft (ia d (Nat.le_of_succ_le_succ h)))))
 |ad a b ia ib=>
  intro d h
  cases d with
  |zero=>exact ax h (Nat.not_succ_le_zero _)
  |succ d=>
   have h:=Nat.max_le.mp (Nat.le_of_succ_le_succ h)
   exact gc _ (iN _ (Om.mpr ⟨a,ia d h.1,Ft (ib d h.2)⟩))
 |ml a b ia ib=>
  intro d h
  cases d with
  |zero=>exact ax h (Nat.not_succ_le_zero _)
  |succ d=>
   have h:=Nat.max_le.mp (Nat.le_of_succ_le_succ h)
   exact iN _ (Om.mpr ⟨a,ia d h.1,Ft (ib d h.2)⟩)
noncomputable def rk(cs:cH)(t:aF):AV:=yC (bN cs t) t
noncomputable def wX(cs:cH)(t:aF):Nat:=(nV 30).countP λu=>cN (rk cs u) (rk cs t)
theorem QO{p q:α->Bool}{l:ae α}(h: ∀a,p a=true->q a=true){a:α}(ha:a∈l)(h1:p a=false)(h2:q a=true):l.countP p<l.countP q:=by
 induction l with
 |nil=>cases ha
 |cons b r ih=>
  rw[Oi,Oi]
  have le:r.countP p<=r.countP q:=ae.countP_mono_left λx ω=>h x
  rcases aY.mp ha with e |ha
  .rw[<- e,h1,h2,if_pos rfl,aK Bool.false_ne_true];exact Nat.lt_succ_of_le le
  .have:=ih ha
   by_cases e:p b=true
   .rw[if_pos e,if_pos (h b e)];exact Nat.succ_lt_succ this
   .rw[aK e];exact Nat.lt_of_lt_of_le this (Nat.le_add_right _ _)
theorem U0{cs:cH}{t u:aF}(hu:u.dep<=30)(h:cN (rk cs u) (rk cs t)=true):wX cs u<wX cs t:=
 QO (λω h'=>Wj h' h) (TR u 30 hu) (Jc _) h
theorem Jg: ∃n:Nat,∀(cs:cH) (t:aF),wX cs t<=n:=⟨_,λω ω=>ae.countP_le_length⟩
noncomputable def KO:Nat:=Classical.choose Jg
theorem U4(cs:cH)(t:aF):wX cs t<=KO:=Classical.choose_spec Jg cs t
theorem J4{cs:cH}{t u:aF}{b:Bool}(h:cN (rk cs u) (rk cs t)=b)(e:bN cs u≠bN cs t):decide ((bN cs u:aj)<(bN cs t:aj))=b:=
 (aK λq=>e (rX (AV.int.inj q))).symm.trans h
theorem Ik{cs:cH}{t u:aF}(h:cN (rk cs u) (rk cs t)=true):bN cs u<=bN cs t:=
 (ux.em (bN cs u=bN cs t)).elim Nat.le_of_eq λe=>Nat.le_of_lt (iP.mp (k9 (J4 h e)))
theorem Sd{cs:cH}{t u:aF}(h:cN (rk cs u) (rk cs t)=false):bN cs t<=bN cs u:=
 (ux.em (bN cs u=bN cs t)).elim (λe=>Nat.le_of_eq e.symm) λe=>Nat.le_of_not_lt λq=>Av (J4 h e) (iP.mpr q)
theorem Hw: ∀a b:ae Str,h_ (a.map .str) (b.map .str)
 |[],_=>qw _
 |_::_,[]=>True.intro
 |p::a,q::b=>jm (λω=>Hw a b) λω=>vN _ _
theorem Il: ∀a b:ae AV,(∀x∈a,∀y∈b,fK x y)->h_ a b
 |[],_,_=>qw _
 |_::_,[],_=>True.intro
 |p::a,q::b,h=>jm (λω=>Il a b λx hx y hy=>h x (.tail _ hx) y (.tail _ hy)) λω=>h p (.head _) q (.head _)
theorem Se(d:Nat): ∀(t u:aF),t.dep<d->fK t.av u.av:=by
 induction d with
 |zero=>exactλt u h=>ax h (Nat.not_lt_zero _)
 |succ d ih=>
  intro t u h
  rw[show t.av=_ from Tree.i6 _ _,show u.av=_ from Tree.i6 _ _]
  refine ct (jm (λω=>Il _ _ λx hx y hy=>?_) λω=>vN _ _)
  obtain⟨k,hk,e⟩:=aU.mp hx
  obtain⟨j,hj,e'⟩:=aU.mp hy
  exact e▸e'▸ih k j (Nat.lt_of_lt_of_le (Tree.nG hk) (Nat.le_of_lt_succ h))
theorem TS(t u:aF):fK (sW Lf.s t) (sW Lf.s u):=by
 have h1:=Bw (t.pre.map λu=>u.kids.length) (u.pre.map λu=>u.kids.length)
 have h2:=Hw (t.pre.map λu=>u.op Lf.s) (u.pre.map λu=>u.op Lf.s)
 rw[cQ,cQ] at h1 h2
 exact ct (jm (λω=>jm (λω=>jm (λω=>qw _) λω=>ct h1) λω=>ct h2) λω=>ci _ _)
theorem Sf(c c':aj)(t u:aF):fK (yC c t) (yC c' u):=
 ct (jm (λω=>jm (λω=>jm (λω=>qw _) λω=>Se _ t u (Nat.lt_succ_self _)) λω=>TS t u) λω=>ci _ _)
section
section
variable{κ:Type}{K:κ->AV}{n:Nat}{σ:ah}{Q:AV->ah->Prop}
theorem Bz(h: ∀a∈L,∃s:κ,a=K s): ∃l:ae κ,L=l.map K:=by
 induction L with
 |nil=>exact⟨[],rfl⟩
 |cons a r ih=>
  obtain⟨s,rfl⟩:=h a (.head _)
  obtain⟨l,rfl⟩:=ih λb hb=>h b (.tail _ hb)
  exact⟨s::l,rfl⟩
theorem CZ(hK:iE K){k:κ}{l:ae κ}:K k∈l.map K↔k∈l:=
 ⟨λq=>by obtain⟨t,h1,h2⟩:=aU.mp q;rwa [<- hK.inj _ _ h2],λq=>aU.mpr ⟨k,q,rfl⟩⟩
theorem Hx(hK:iE K)(l:ae κ): ∀a∈l.map K,aM 4 a/\ ∀b∈l.map K,dp b=dp a:=λa ha=>by
 obtain⟨s,_,rfl⟩:=aU.mp ha
 exact⟨hK.dat s,λb hb=>by obtain⟨t,_,rfl⟩:=aU.mp hb;exact hK.tag _ _⟩
theorem O0(hK:iE K)(so: ∀l:ae κ,kJ (l.map K)){L:ae κ}{L':ae AV}{d:Addr}(hm: ∀a,a∈L'↔a∈L.map K)(hl:L'.length<=(L.map K).length)(hz:L.length<60)
  (q: ∀O:ae κ,(∀k,k∈O↔k∈L)->O.length<=L.length->Q (.lst (O.map K)) (fP (aA σ d (.set L')) d)):cK n (.builtin "sorted") [.raw (.ref d)] (aA σ d (.set L')) Q:=by
 rw[ar] at hl
 have hx: ∀a∈L',∃s:κ,a=K s:=λa ha=>by
  obtain⟨s,_,e⟩:=aU.mp ((hm a).mp ha);exact⟨s,e.symm⟩
 have fx:L'.length<64:=Nat.lt_of_le_of_lt hl (Nat.lt_trans hz (by decide))
 have kQ: ∀X:ae AV,X.Perm L'->(2<=X.length->kJ X)/\X.length<=sizeLine:=λX hX=>
  ⟨λω=>by
   obtain⟨l,rfl⟩:=Bz λa ha=>hx a (hX.mem_iff.mp ha)
   exact so l,by rw[hX.length_eq];exact t2 (Nat.lt_trans fx (by decide))⟩
 refine AR (l:=L') (bB _ _ _) (r4 (λX=>X.Perm L') kQ) (t2 (Nat.lt_trans fx (by decide))) λX out hX ho=>?_
 obtain⟨O,rfl⟩:=Bz λa ha=>hx a (hX.mem_iff.mp (ho.1 a ha))
 have fM:=(ho.2.2 (by rw[hX.length_eq];exact fx)).trans hX
 refine q O (λk=>?_) ?_
 .rw[<- CZ hK,fM.mem_iff,hm,CZ hK]
 .have:=fM.length_eq
  rw[ar] at this
  rw[this];exact hl
theorem U5(l:ae Str):kJ (l.map AV.str):=⟨.Ku λa ha=>by obtain⟨k,_,rfl⟩:=aU.mp ha;exact⟨_,rfl⟩,
 λa ha=>by obtain⟨k,_,rfl⟩:=aU.mp ha;exact .str _ _,λa ha b hb=>by
  obtain⟨k,_,rfl⟩:=aU.mp ha
  obtain⟨j,_,rfl⟩:=aU.mp hb
  exact vN _ _⟩
theorem KP{f:Value}{args:ae AV}(h:aT n f args σ (DB Q)):aT n f args σ Q:=λA X P s vs hA T r=>
 lV (h A X P s vs hA T r) λr s' ⟨P',σ',b,v,e,hP,I',rv,c,aO,hf,q⟩=>by
  obtain⟨bA,h2,I2,r2⟩:=I'.fz rv hf
  exact⟨bA,aO,c,v,e,hP.trans h2,I2,r2,q⟩
end
theorem Hy{L:Type}{t:Tree L}{v:L}: .lf v∈t.pre↔v∈t.c9:=by
 induction t with
 |lf i=>exact⟨λh=>aW.mpr (Tree.lf.inj (aW.mp h)),λh=>aW.mp h▸ .head _⟩
 |ng a ih=>exact⟨λh=>(aY.mp h).elim nofun ih.mp,λh=> .tail _ (ih.mpr h)⟩
 |ad a b ia ib=>exact⟨λh=>(aY.mp h).elim nofun λh=>cy.mpr ((cy.mp h).imp ia.mp ib.mp),λh=> .tail _ (cy.mpr ((cy.mp h).imp ia.mpr ib.mpr))⟩
 |ml a b ia ib=>exact⟨λh=>(aY.mp h).elim nofun λh=>cy.mpr ((cy.mp h).imp ia.mp ib.mp),λh=> .tail _ (cy.mpr ((cy.mp h).imp ia.mpr ib.mpr))⟩
variable{n:Nat}{af:Env}{m:au}{σ:ah}{Q:AV->ah->Prop}
theorem Cr(d:Nat)(t:bP)(hd:t.dep<d)(pQ:d<900)(hz:t.sz<=50)(q: ∀O:ae Str,(∀x,x∈O↔ ∃v∈t.c9,v.eA=true/\x=v.s)->O.length<=t.sz->Q (.lst (O.map .str)) σ):aT (3*d+3) (.ref 91) [t.av] σ Q:=by
 refine mi ?_
 refine fC (S "t") ?_
 intro Lo ev mv
 refine bC ?_
 refine bq (.builtin "sorted") ?_
 show ww
 refine bq (.type "set") ?_
 show ww
 refine fG [] (w_seq ?_)
 refine bY 96 ?_
 show ww
 refine Ii (ls:=PL.s) d t hd pQ (Nat.le_trans hz (by decide)) λps ok=>?_
 have pl:ps.length=t.sz:=by rw[<- ar (f:=λp:ae AV×bP=>p.2),ok.pre,qs]
 refine⟨_,.lst _,λi acc σ'=>σ'=σ/\ ∃O:ae Str,acc=O.map .str/\O.length<=i/\ ∀x,x∈O↔ ∃v,Tree.lf v∈(ps.take i).map (·.2)/\v.eA=true/\x=v.s,⟨rfl,[],rfl,Nat.le_refl _,λx=>⟨λh=>(nomatch h),λ⟨v,h,_⟩=>by rw[pZ] at h;cases h⟩⟩,?_,?_⟩
 .intro C i a acc σ' hi hI ce cm Jv
  obtain⟨e1,O,e2,hl,hO⟩:=hI
  subst e1 e2
  rw[cP] at hi
  obtain⟨p,hp,rfl⟩:=dA.mp hi
  have il:=(cV.mp hp).1
  refine kC (.tup _) (eR (aN (eR (aN (kH (nD (mh (λω=>rfl) ?_)))))))
  refine bY 86 ?_
  show ww
  refine(yX p.2 ⟨_,rfl,?_⟩).less (Nat.le_trans (by decide:3<=3*1) (Nat.mul_le_mul_left 3 (Nat.lt_of_le_of_lt (Nat.zero_le _) hd)))
  have step: ∀x,(∃v,Tree.lf v∈(ps.take (i+1)).map (·.2)/\v.eA=true/\x=v.s)↔(x∈O\/ ∃v,p.2=Tree.lf v/\v.eA=true/\x=v.s):=λx=>by
   rw[hO,fh,hp,bX]
   constructor
   .rintro⟨v,h1,h2,h3⟩
    rcases cy.mp h1 with h |h
    .exact .inl ⟨v,h,h2,h3⟩
    .exact .inr ⟨v,(aW.mp h).symm,h2,h3⟩
   .rintro(⟨v,h1,h2,h3⟩ |⟨v,h1,h2,h3⟩)
    .exact⟨v,gc _ h1,h2,h3⟩
    .exact⟨v,iN _ (aW.mpr h1.symm),h2,h3⟩
  by_cases hv:p.2.isVar=true
  .obtain⟨v,ev,vv⟩: ∃v,p.2=Tree.lf v/\v.eA=true:=by
    cases e:p.2 with
    |lf v=>rw[e] at hv;exact⟨v,rfl,hv⟩
    |ng a=>rw[e] at hv;cases hv
    |ad a b=>rw[e] at hv;cases hv
    |ml a b=>rw[e] at hv;cases hv
   refine bS hv (bh ?_)
   show ww
   rw[ev]
   refine dC (λω ω=>rfl) (c_ _) (t1 (n:=1) (by decide)) (l:=[AV.str v.s]) rfl ⟨?_,rfl,O++[v.s],by rw[bX];rfl,by rw[bQ];exact Nat.succ_le_succ hl,λx=>?_⟩
   .rw[ar];exact t3 (Nat.lt_of_le_of_lt hl (Nat.lt_of_lt_of_le il (by rw[pl];exact Nat.le_trans hz (by decide))))
   .rw[step,cy,aW]
    exact⟨λh=>h.imp id λh=>⟨v,ev,vv,h⟩,λh=>h.imp id λ⟨w,h1,_,h3⟩=>by rw[ev] at h1;injection h1 with h1;rw[h3,h1]⟩
  .refine bL (by simpa using hv) ⟨rfl,O,rfl,Nat.le_succ_of_le hl,λx=>?_⟩
   rw[step]
   exact⟨.inl,λh=>h.elim id λ⟨w,h1,h2,_⟩=>ax (by rw[h1];exact h2) hv⟩
 intro acc σ' hI
 obtain⟨e1,O,e2,hl,hO⟩:=hI
 subst e1 e2
 rw[ar] at hl hO
 rw[g8,ok.pre] at hO
 rw[pl] at hl
 show ww
 refine yT (Hx ef O) (by rw[ar];exact Nat.le_trans hl (Nat.le_trans hz (by decide))) λdd L' iH pN rC=>?_
 show ww
 refine O0 ef U5 pN rC (Nat.lt_of_le_of_lt hl (Nat.lt_of_le_of_lt hz (by decide))) λO' h1 h2=>⟨σ',Hp iH,q O' (λx=>?_) (Nat.le_trans h2 hl)⟩
 rw[h1,hO]
 exact⟨λ⟨v,a,b,c⟩=>⟨v,Hy.mp a,b,c⟩,λ⟨v,a,b,c⟩=>⟨v,Hy.mpr a,b,c⟩⟩
end
section
set_option genInjectivity false in
structure bV where
 name:Str
 l:bP
 r:bP
noncomputable def bV.at_(R:bV):ae (Str×AV):=[(S "name",.str R.name),(S "left",R.l.av),(S "right",R.r.av),(S "needs",.tup [])]
noncomputable def bV.av(R:bV):AV:= .ins 534 R.at_
structure u_(R:bV):Prop where
 nv:R.l.isVar=false
 dl:R.l.dep<10
 dr:R.r.dep<10
 zl:R.l.sz<=20
 zr:R.r.sz<=20
 sub: ∀v∈R.r.c9,v.eA=true->v∈R.l.c9
theorem BB(l:ae Str): ∀a∈l.map AV.str,aM 8 a:=λa ha=>by obtain⟨k,_,rfl⟩:=aU.mp ha;exact .str _ _
variable{n:Nat}{af:Env}{m:au}{σ:ah}{Q:AV->ah->Prop}
theorem yD(R:bV)(O:u_ R)(q:Q R.av σ):aT 41 (.ref 534) [.str R.name,R.l.av,R.r.av,.tup []] σ Q:=by
 refine mi (KP ?_)
 refine nK (n:=36) (fI:=524) (by kernel_rfl) (by kernel_rfl) (by kernel_rfl) λx dx dn=>?_
 have dH:aA σ dx (.attrs []) dx=some (.attrs []):=bB _ _ _
 have k0:dg σ (aA σ dx (.attrs [])):=iR dn
 revert dH k0
 refine dP (aA σ dx (.attrs [])) λfU=>?_
 intro dH k0
 refine Xc (S "self") (S "name") (S "left") (S "right") (S "needs") ?_ (by with_unfolding_all rfl) (by kernel_rfl) λω ω ω ω ω=>rfl
 intro Lo ev mv
 refine eM (mh (λω=>rfl) ?_)
 refine bY 86 ?_
 show ww
 refine(yX R.l ⟨_,rfl,O.nv,?_⟩).less (by decide)
 refine cg ?_
 refine bY 91 ?_
 show ww
 refine Cr 10 R.l O.dl (by decide) (Nat.le_trans O.zl (by decide)) λK hK hKl=>aN ?_
 intro mv
 refine cg (bR (gm (l_cons (e_tuple ?_))))
 show ww
 refine⟨t2 (n:=3) (by decide),l_nil ⟨t2 (n:=1) (by decide),?_⟩⟩
 refine bq (.type "list") ?_
 show ww
 refine IR (.tup []) (Nat.zero_le _) (uA (.lst _) (.lst _) (t2 (n:=1) (by decide)) (aN ?_))
 intro mv
 refine oU (λi m' σ'=>σ'=fU/\m' (S "self")=some (.obj x 534 dx)/\m' (S "name")=some (.str R.name)/\m' (S "left")=some R.l.av/\m' (S "right")=some R.r.av/\m' (S "needs")=some (.tup [])/\m' (S "known")=some (.lst (K.map .str))) (λω ω=>rfl) (w_seq ?_)
 show ww
 refine⟨_,.lst _,⟨rfl,rfl,rfl,rfl,rfl,rfl,rfl⟩,?_,?_⟩
 .intro i a m' σ' hi I Qv
  obtain⟨e,m1,m2,m3,m4,m5,m6⟩:=I
  subst e
  have ea:a= .tup [.str (S "alike"),R.r.av,R.r.av]:=aW.mp (cO hi)
  subst ea
  refine kC (.tup _) (eR (aN (eR (aN (eR (aN (kH ?_)))))))
  refine eM (bu rfl ?_)
  show ww
  refine e_tuple ?_
  show ww
  refine⟨t2 (n:=2) (by decide),uh (λa ha=>?_) (.str _ _) ⟨_,rfl,?_,?_⟩⟩
  .rcases aY.mp ha with rfl |ha
   .exact .str _ _
   .rw[aW.mp ha];exact .str _ _
  .rw[show decide (AV.str (S "alike")∈[AV.str (S "alike"),AV.str (S "unlike")])=true from decide_eq_true (ae.Mem.head _)];rfl
  refine oO [(S "known",Lo+1)] (w_seq (bR ?_))
  have zr:=Nat.le_trans O.zr (by decide:20<=50)
  refine bY 91 ?_
  show ww
  refine Cr 10 R.r O.dr (by decide) zr λA hA Zv=>?_
  refine bY 91 ?_
  show ww
  refine Cr 10 R.r O.dr (by decide) zr λB hB Zw=>?_
  refine uA (.lst _) (.lst _) ?_ ⟨_,.lst _,λi acc fD=>fD=σ'/\acc=[],⟨rfl,rfl⟩,?_,?_⟩
  .rw[ar,ar];exact Nat.le_trans (Nat.add_le_add (Nat.le_trans Zv zr) (Nat.le_trans Zw zr)) (t2 (n:=100) (by decide))
  .intro C j b acc fD hj hI ce cm Jv
   obtain⟨e1,e2⟩:=hI
   subst e1 e2
   obtain⟨y,hy,rfl⟩: ∃y,(∃v∈R.r.c9,v.eA=true/\y=v.s)/\b= .str y:=by
    rcases cy.mp (cO hj) with h |h
    .obtain⟨y,hy,rfl⟩:=aU.mp h;exact⟨y,(hA y).mp hy,rfl⟩
    .obtain⟨y,hy,rfl⟩:=aU.mp h;exact⟨y,(hB y).mp hy,rfl⟩
   obtain⟨v,v1,v2,v3⟩:=hy
   have zP:AV.str y∈K.map .str:=aU.mpr ⟨y,(hK y).mpr ⟨v,O.sub v v1 v2,v2,v3⟩,rfl⟩
   refine aN (nD (bu rfl ?_))
   show ww
   refine Pd (BB K) (.str _ _) ⟨_,rfl,bL ?_ ⟨rfl,rfl⟩⟩
   rw[decide_eq_true zP];rfl
  intro acc fD hI
  obtain⟨e1,e2⟩:=hI
  subst e1 e2
  refine eM (bu rfl ?_)
  show ww
  refine gm (l_nil ⟨Nat.zero_le _,uF (λω h=>by cases h) (λω h=>by cases h) ⟨_,rfl,by rewrite [decide_eq_true rfl];rfl,bE ?_⟩⟩)
  exact⟨rfl,m1,m2,m3,m4,m5,m6⟩
 intro m' σ' I
 obtain⟨e,m1,m2,m3,m4,m5,m6⟩:=I
 subst e
 refine dq ?_
 show ww
 refine⟨_,dH,rfl,λaw M1=>?_⟩
 refine dq ?_
 show ww
 refine⟨_,M1.at_,by kernel_rfl,λa_ M2=>?_⟩
 refine dq ?_
 show ww
 refine⟨_,M2.at_,by kernel_rfl,λcn M3=>?_⟩
 refine dq ?_
 refine bq (.type "tuple") ?_
 show ww
 refine AP ⟨_,M3.at_,by kernel_rfl,λeO M4=>bE ⟨rfl,?_⟩⟩
 refine⟨R.av,_,.attrs M4.at_,σ,λc o h=>?_,q⟩
 have ne:=bp h dn
 exact(iY _ ne).trans (M4.keep _ _ (M3.keep _ _ (M2.keep _ _ (M1.keep _ _ (k0 _ _ h) ne) ne) ne) ne)
end
theorem U6{v w:PL}(hv:v.eA=true)(h:w.s=v.s):w=v:=by
 cases v with
 |f i=>cases hv
 |a=>cases w with
  |f i=>cases i<;>exact ax h (by decide)
  |a=>rfl
  |b=>exact ax h (by decide)
  |c=>exact ax h (by decide)
 |b=>cases w with
  |f i=>cases i<;>exact ax h (by decide)
  |a=>exact ax h (by decide)
  |b=>rfl
  |c=>exact ax h (by decide)
 |c=>cases w with
  |f i=>cases i<;>exact ax h (by decide)
  |a=>exact ax h (by decide)
  |b=>exact ax h (by decide)
  |c=>rfl
noncomputable def vF(R:bV):Bool:= !R.l.isVar&&Nat.blt R.l.dep 10&&Nat.blt R.r.dep 10&&Nat.ble R.l.sz 20&&Nat.ble R.r.sz 20&&R.r.c9.all λv=> !v.eA||R.l.c9.any λw=>decide (w.s=v.s)
theorem u_.eV{R:bV}(h:vF R=true):u_ R:=by
 unfold vF at h
 simp only[Bool.and_eq_true,Bool.not_eq_true',ox] at h
 obtain⟨⟨⟨⟨⟨h1,h2⟩,h3⟩,h4⟩,h5⟩,h6⟩:=h
 refine⟨h1,Nat.blt_eq.mp h2,Nat.blt_eq.mp h3,Nat.le_of_ble_eq_true h4,Nat.le_of_ble_eq_true h5,λv hv hV=>?_⟩
 have:=h6 v hv
 rw[hV,Bool.not_true,Bool.false_or,ae.any_eq_true] at this
 obtain⟨w,h7,h8⟩:=this
 rwa [<- U6 hV (k9 h8)]
noncomputable abbrev pA:bP:= .lf .a
noncomputable abbrev pB:bP:= .lf .b
noncomputable abbrev pC:bP:= .lf .c
noncomputable abbrev pF(i:Lf):bP:= .lf (.f i)
noncomputable def pp(o:Bool)(x y:bP):bP:=if o then .ad x y else .ml x y
noncomputable def kY(o:Bool):Str:=if o then S "add" else S "mul"
noncomputable def sY(o:Bool)(u:Lf):ae bV:=
 [⟨kY o++S "-turn",pp o pA pB,pp o pB pA⟩,⟨kY o++S "-put",pp o (pp o pA pB) pC,pp o pA (pp o pB pC)⟩,⟨kY o++S "-unit",pp o pA (pF u),pA⟩]
noncomputable def EA:Nat->Lf
 |2=> .d2 |3=> .d3 |_=> .d4
noncomputable def BZ(M:Nat):ae bV:=
 [⟨S "neg-add",.ad pA (.ng pA),pF .d0⟩,⟨S "neg-neg",.ng (.ng pA),pA⟩,⟨S "neg-mul",.ml (.ng pA) pB,.ng (.ml pA pB)⟩,⟨S "mul-zero",.ml pA (pF .d0),pF .d0⟩,
  ⟨S "spread",.ml pA (.ad pB pC),.ad (.ml pA pB) (.ml pA pC)⟩,⟨S "gather",.ad (.ml pA pB) (.ml pA pC),.ml pA (.ad pB pC)⟩,⟨S "round",pF (EA M),pF .d0⟩]
noncomputable def jH(M:Nat):ae bV:=sY true .d0++sY false .d1++BZ M
section
variable{n:Nat}{af:Env}{m:au}{σ:ah}{Q:AV->ah->Prop}
theorem Xx:RepV G.w.params G.gQ.heap.get? pA.av (.ref 637):= .tup (H.K _ _ (by with_unfolding_all rfl)) (.cons (.str _ _) .nil)
theorem Xy:RepV G.w.params G.gQ.heap.get? pB.av (.ref 638):= .tup (H.K _ _ (by with_unfolding_all rfl)) (.cons (.str _ _) .nil)
theorem Xz:RepV G.w.params G.gQ.heap.get? pC.av (.ref 639):= .tup (H.K _ _ (by with_unfolding_all rfl)) (.cons (.str _ _) .nil)
theorem e_gA{pos:Pos}(h:Q pA.av σ)(hl:true=gB af (S "A"):=by with_unfolding_all rfl):aQ n af (.Name (Str.ofString "A") pos) m σ Q:=
 uE (a:=pA.av) (v:= .ref 637) Xx h (by kernel_rfl) hl (by kernel_rfl)
theorem e_gB{pos:Pos}(h:Q pB.av σ)(hl:true=gB af (S "B"):=by with_unfolding_all rfl):aQ n af (.Name (Str.ofString "B") pos) m σ Q:=
 uE (a:=pB.av) (v:= .ref 638) Xy h (by kernel_rfl) hl (by kernel_rfl)
theorem e_gC{pos:Pos}(h:Q pC.av σ)(hl:true=gB af (S "C"):=by with_unfolding_all rfl):aQ n af (.Name (Str.ofString "C") pos) m σ Q:=
 uE (a:=pC.av) (v:= .ref 639) Xz h (by kernel_rfl) hl (by kernel_rfl)
theorem Cs(o:Bool){u:Lf}(hu:u= .d0\/u= .d1): ∀R∈sY o u,vF R=true:=by
 rcases hu with rfl |rfl<;>cases o<;>intro R hR<;>(rcases aY.mp hR with rfl |hR;kernel_rfl;rcases aY.mp hR with rfl |hR;kernel_rfl;rw[aW.mp hR];kernel_rfl)
theorem U7(o:Bool)(x y:bP):bP.av (pp o x y)= .tup [.str (kY o),x.av,y.av]:=by cases o<;>rfl
theorem Jh(o:Bool){u:Lf}(hu:u= .d0\/u= .d1)(q:Q (.lst ((sY o u).map bV.av)) σ):aT 44 (.ref 657) [.str (kY o),.str u.s] σ Q:=by
 have ol: ∀y:Str,y.length<=10->(kY o++y).length<=1000:=λy hy=>by
  have e:(kY o++y).length=(kY o).length+y.length:=ay.size_append ..
  have e2:(kY o).length=3:=by cases o<;>rfl
  rw[e,e2];exact Nat.le_trans (Nat.add_le_add_left hy 3) (by decide)
 have R1:=λQ:AV->ah->Prop=>yD (σ:=σ) (Q:=Q) _ (.eV (Cs o hu _ (.head _)))
 have R2:=λQ:AV->ah->Prop=>yD (σ:=σ) (Q:=Q) _ (.eV (Cs o hu _ (.tail _ (.head _))))
 have R3:=λQ:AV->ah->Prop=>yD (σ:=σ) (Q:=Q) _ (.eV (Cs o hu _ (.tail _ (.tail _ (.head _)))))
 simp only[U7] at R1 R2 R3
 refine eL (S "op") (S "unit") ?_
 intro Lo ev mv
 refine bC (gm ?_)
 refine l_cons ?_
 refine bY 534 ?_
 refine l_cons (Cj ?_)
 show ww
 refine⟨_,rfl,ol _ (by decide),?_⟩
 show wp
 refine R1 _ ?_
 refine l_cons ?_
 refine bY 534 ?_
 refine l_cons (Cj ?_)
 show ww
 refine⟨_,rfl,ol _ (by decide),?_⟩
 show wp
 refine R2 _ ?_
 refine l_cons ?_
 refine bY 534 ?_
 refine l_cons (Cj ?_)
 show ww
 refine⟨_,rfl,ol _ (by decide),?_⟩
 show wp
 refine R3 _ ?_
 exact l_nil ⟨Nat.le_of_ble_eq_true rfl,q⟩
end
section
variable{n:Nat}{af:Env}{m:au}{σ:ah}{Q:AV->ah->Prop}
noncomputable def vc(M:Nat):AV:= .ins 686 [(S "n",am M)]
theorem U8(M:Nat)(q:Q (vc M) σ):aT 8 (.ref 686) [am M] σ Q:=by
 refine mi (KP ?_)
 refine nK (fI:=671) (by kernel_rfl) (by kernel_rfl) (by kernel_rfl) λx dx dn=>?_
 have dH:aA σ dx (.attrs []) dx=some (.attrs []):=bB _ _ _
 have k0:dg σ (aA σ dx (.attrs [])):=iR dn
 revert dH k0
 refine dP (aA σ dx (.attrs [])) λfU=>?_
 intro dH k0
 refine eL (S "self") (S "n") ?_
 intro Lo ev mv
 refine dq ?_
 show ww
 refine⟨_,dH,rfl,λaw M1=>bE ⟨rfl,?_⟩⟩
 refine⟨vc M,_,.attrs M1.at_,σ,λc o h=>?_,q⟩
 have ne:=bp h dn
 exact(iY _ ne).trans (M1.keep _ _ (k0 _ _ h) ne)
theorem Sg(hM:M=2\/M=3\/M=4): ∀R∈BZ M,vF R=true:=by
 rcases hM with rfl |rfl |rfl<;>intro R hR<;>
 (rcases aY.mp hR with rfl |hR;kernel_rfl;rcases aY.mp hR with rfl |hR;kernel_rfl;rcases aY.mp hR with rfl |hR;kernel_rfl
  rcases aY.mp hR with rfl |hR;kernel_rfl;rcases aY.mp hR with rfl |hR;kernel_rfl;rcases aY.mp hR with rfl |hR;kernel_rfl;rw[aW.mp hR];kernel_rfl)
theorem J5(hM:M=2\/M=3\/M=4):(toString (M:aj):Str)=(EA M).s:=by
 rcases hM with rfl |rfl |rfl<;>decide
theorem lM{v:Str}{p1 pos:Pos}{l:ae (Str×AV)}(h:Q b σ)(hl:true=qU af v:=by exact rfl)(hd:(v==("__debug__":Str))=false:=by kernel_rfl)
  (hv:m v=some (.ins C l):=by first |assumption |rfl) (pl:Cl KF C name=true:=by kernel_rfl) (hb:kN l name=some b:=by exact rfl) (hh:true=yV b:=by exact rfl):aQ n af (.Attribute (.Name v p1) name pos) m σ Q:=
 yl (λω=>rfl) (e_nm ⟨C,l,none,b,.ins,.eV pl,hb,x7 hh.symm,h⟩ hv hl hd)
theorem qt(R:bV)(O:u_ R)(q:Q R.av σ):aT 44 (.ref 534) [.str R.name,R.l.av,R.r.av,.tup []] σ Q:=(yD R O q).less (by decide)
set_option maxHeartbeats 16000000 in
theorem TU(hM:M=2\/M=3\/M=4)(q:Q (.lst ((jH M).map bV.av)) σ):aT 47 (.ref 678) [vc M] σ Q:=by
 have B:=Sg hM
 have R1:=λQ:AV->ah->Prop=>qt (σ:=σ) (Q:=Q) _ (.eV (B _ (.head _)))
 have R2:=λQ:AV->ah->Prop=>qt (σ:=σ) (Q:=Q) _ (.eV (B _ (.tail _ (.head _))))
 have R3:=λQ:AV->ah->Prop=>qt (σ:=σ) (Q:=Q) _ (.eV (B _ (.tail _ (.tail _ (.head _)))))
 have R4:=λQ:AV->ah->Prop=>qt (σ:=σ) (Q:=Q) _ (.eV (B _ (.tail _ (.tail _ (.tail _ (.head _))))))
 have R5:=λQ:AV->ah->Prop=>qt (σ:=σ) (Q:=Q) _ (.eV (B _ (.tail _ (.tail _ (.tail _ (.tail _ (.head _)))))))
 have R6:=λQ:AV->ah->Prop=>qt (σ:=σ) (Q:=Q) _ (.eV (B _ (.tail _ (.tail _ (.tail _ (.tail _ (.tail _ (.head _))))))))
 have R7:=λQ:AV->ah->Prop=>qt (σ:=σ) (Q:=Q) _ (.eV (B _ (.tail _ (.tail _ (.tail _ (.tail _ (.tail _ (.tail _ (.head _)))))))))
 refine fC (S "self") ?_
 intro Lo ev mv
 refine cg (e_tuple ?_)
 show wp
 refine aN ?_
 intro mv
 refine bC (bR (bR ?_))
 refine bY 657 ?_
 show ww
 refine Jh true (u:= .d0) (.inl rfl) ?_
 refine bY 657 ?_
 show ww
 refine Jh false (u:= .d1) (.inr rfl) ?_
 refine uA (.lst _) (.lst _) (Nat.le_of_ble_eq_true rfl) ?_
 refine gm ?_
 refine l_cons ?_
 refine bY 534 ?_
 show wp
 refine R1 _ ?_
 refine l_cons ?_
 refine bY 534 ?_
 show wp
 refine R2 _ ?_
 refine l_cons ?_
 refine bY 534 ?_
 show wp
 refine R3 _ ?_
 refine l_cons ?_
 refine bY 534 ?_
 show wp
 refine R4 _ ?_
 refine l_cons ?_
 refine bY 534 ?_
 show wp
 refine R5 _ ?_
 refine l_cons ?_
 refine bY 534 ?_
 show wp
 refine R6 _ ?_
 refine l_cons ?_
 refine bY 534 ?_
 refine l_cons (e_str ?_)
 refine l_cons (e_tuple (l_cons ?_))
 refine bq (.type "str") ?_
 refine l_cons (lM (l_nil ?_))
 refine GU (by rcases hM with rfl |rfl |rfl<;>decide) ?_
 rw[J5 hM]
 show wp
 refine R7 _ ?_
 refine l_nil ⟨Nat.le_of_ble_eq_true rfl,uA (.lst _) (.lst _) (Nat.le_of_ble_eq_true rfl) ?_⟩
 have e:(jH M).map bV.av=(sY true .d0).map bV.av++(sY false .d1).map bV.av++(BZ M).map bV.av:=by
  unfold jH;rw[bX,bX]
 rw[e] at q
 exact q
end
section
noncomputable def Lf.dig:Lf->Nat
 | .d0=>0 | .d1=>1 | .d2=>2 | .d3=>3 | .d4=>4 | .vx=>0
structure Mo(x:Str)(v:Nat):Prop where
 len:x.length=1
 asc:x.cps.all (· <128)=true
 minus:Txt.slice x none (some 1)≠S "-"
 sign: ∀c∈x.cps.toList,xG (S "0123456789") ⟨#[c]⟩=true
 int:PySem.intText? x=some (v:aj)
theorem U9{i:Lf}(hi:i≠ .vx):Mo i.s i.dig:=by
 cases i with
 |vx=>exact ax rfl hi
 |d0=>exact⟨by kernel_rfl,by kernel_rfl,by decide,λc hc=>by rw[aW.mp (show c∈[48] from hc)];kernel_rfl,by kernel_rfl⟩
 |d1=>exact⟨by kernel_rfl,by kernel_rfl,by decide,λc hc=>by rw[aW.mp (show c∈[49] from hc)];kernel_rfl,by kernel_rfl⟩
 |d2=>exact⟨by kernel_rfl,by kernel_rfl,by decide,λc hc=>by rw[aW.mp (show c∈[50] from hc)];kernel_rfl,by kernel_rfl⟩
 |d3=>exact⟨by kernel_rfl,by kernel_rfl,by decide,λc hc=>by rw[aW.mp (show c∈[51] from hc)];kernel_rfl,by kernel_rfl⟩
 |d4=>exact⟨by kernel_rfl,by kernel_rfl,by decide,λc hc=>by rw[aW.mp (show c∈[52] from hc)];kernel_rfl,by kernel_rfl⟩
variable{n:Nat}{af:Env}{m:au}{σ:ah}{Q:AV->ah->Prop}
theorem TV{v:Nat}(D:Mo x v)(q:Q (am v) σ):aT 3 (.ref 636) [.str x] σ Q:=by
 refine fC (S "op") ?_
 intro Lo ev mv
 refine cg (oH (bu rfl (hG (lo:=none) (hi:=some 1) .none (.int 1 _ _) ?_)))
 show ww
 have lz:x.length<=sizeLine:=by rw[D.len];exact t2 (n:=1) (by decide)
 refine u5 lz ?_
 show ww
 refine fW ⟨_,rfl,bL (cu D.minus) ?_⟩
 show ww
 refine aN ?_
 intro mv
 refine eM (iZ (h9 (yJ (IC rfl ?_))))
 show ww
 refine bq (.builtin "len") ?_
 show ww
 refine P6 (by rw[D.len];decide) ?_
 rw[D.len]
 refine pf ⟨true,rfl,?_⟩
 refine bS rfl ?_
 show ww
 refine C8 ⟨true,rfl,bL rfl (h9 (bu rfl (fG [] (w_of ?_))))⟩
 show ww
 refine⟨_,IT D.asc,λi acc σ'=>σ'=σ/\acc=[],⟨rfl,rfl⟩,?_,?_⟩
 .intro C i a acc σ' hi hI ce cm Jv
  obtain⟨c,hc,rfl⟩:=Bf (cO hi)
  refine aN (nD (bu rfl ?_))
  show ww
  exact Pn ⟨_,rfl,bL (by rw[D.sign c hc];rfl) hI⟩
 intro acc σ' hI
 obtain⟨e1,e2⟩:=hI
 subst e1 e2
 refine gm (l_nil ⟨Nat.zero_le _,uF (λω h=>by cases h) (λω h=>by cases h) ⟨_,rfl,bL (by rewrite [decide_eq_true rfl];rfl) (jJ ⟨rfl,bC ?_⟩)⟩⟩)
 refine bq (.type "int") ?_
 show ww
 exact Qz D.int (by rw[D.len];decide) q
theorem TW(q:Q (am k) σ):aT 3 (.ref 650) [.tup [.str (S "x")],.ca (aZ .str am [(S "x",k)])] σ Q:=by
 have nd:(([(S "x",k)]:ae (Str×Nat)).map (·.1)).Nodup:=fF.mpr ⟨jf,fA⟩
 have g:aX (S "x") [(S "x",k)]=some k:=by rw[dS,if_pos rfl]
 refine eL (S "term") (S "env") ?_
 intro Lo ev mv
 refine eM (iZ (h9 (bu rfl ?_)))
 refine bq (.builtin "len") ?_
 show ww
 refine dL (.inl (.tup _)) (by decide) ?_
 show ww
 refine s9 ⟨false,rfl,bL rfl (h9 (bu rfl (bh ?_)))⟩
 show ww
 refine dC (λω ω=>rfl) (c_ _) (by decide) rfl ?_
 show ww
 refine ui ef rfl (.ca _) nd ⟨_,rfl,bL (by rw[g];rfl) (jJ ⟨rfl,bC (bh ?_)⟩)⟩
 show ww
 refine bh ?_
 show ww
 refine dC (λω ω=>rfl) (c_ _) (by decide) rfl ?_
 exact ge ef rfl (.ca _) (λω ω=>rfl) nd g q
theorem oF(a M:Nat):(a:aj).fmod M=((a%M:Nat):aj):=by
 rw[Af _ (gf M)];rfl
theorem Sj{a:Nat}(h:a<M):(-(a:aj)).fmod M=(((M - a)%M:Nat):aj):=by
 rw[Af _ (gf M)]
 have e:(-(a:aj))%M=(((M - a:Nat):aj))%M:=by
  rw[FU (Nat.le_of_lt h)]
  rw[aj.sub_eq_add_neg,aj.add_emod_left]
 rw[e];rfl
theorem nO(hk:k<M): ∀t:aF,t.ev M (gI M k)<M
 | .lf i=>by
  have h0:0<M:=Nat.lt_of_le_of_lt (Nat.zero_le _) hk
  cases i with
  |d0=>exact h0
  |vx=>exact hk
  |d1=>exact Nat.mod_lt _ h0
  |d2=>exact Nat.mod_lt _ h0
  |d3=>exact Nat.mod_lt _ h0
  |d4=>exact Nat.mod_lt _ h0
 | .ng a=>Nat.mod_lt _ (Nat.lt_of_le_of_lt (Nat.zero_le _) hk)
 | .ad a b=>Nat.mod_lt _ (Nat.lt_of_le_of_lt (Nat.zero_le _) hk)
 | .ml a b=>Nat.mod_lt _ (Nat.lt_of_le_of_lt (Nat.zero_le _) hk)
end
section
variable{n:Nat}{af:Env}{m:au}{σ:ah}{Q:AV->ah->Prop}
inductive Zx(n:Nat)(af:Env)(name:Str)(f:Addr)(args:ae Expr)(m:au)(Q:AV->ah->Prop)(a:AV)(ap:ah):Prop
 |mk (C:Addr) (l:ae (Str×AV)) (e:a= .ins C l) (hm:yU KF C name f=true) (hg:kN l name=none) (k:iG n af args m ap (Ee n f a Q))
theorem zd{o:Expr}{apos pos:Pos}(f:Addr)
  (h:aQ n af o m σ (Zx n af name f args m Q))
  (he: ∀af,eval (.Call (.Attribute o name apos) args [] pos) af=(do
   let ov <- eval o af
   iU apos.atName
   let(f,first) <- holding [ov] (xN ov name (pl af))
   qh pos f first (jI pos (g_ args af)) []):=by exactλω=>rfl):aQ n af (.Call (.Attribute o name apos) args [] pos) m σ Q:=by
 refine dF he (h.mono λa ap pq=>?_)
 obtain⟨C,l,e,hm,hl,hL⟩:=pq
 subst e
 obtain⟨m1,m2⟩:=u0.eV hm
 exact⟨_,GE .ins m1 hl,Bq m2,hL.1,λA X P s pos hA T=>aC.with (hL.2 A X P s pos hA T) λvs s' P' σ' b hP T' r q=>⟨P',σ',b,hP,T',r,q.DC⟩⟩
noncomputable abbrev J6(k:Nat):AV:= .ca (aZ .str am [(S "x",k)])
theorem J7{a:Nat}(ha:a<5):PySem.Builtin.Int.intBits (a:aj)<=3:=by
 rcases(by lia:a=0\/a=1\/a=2\/a=3\/a=4) with rfl |rfl |rfl |rfl |rfl<;>exact Nat.le_of_ble_eq_true (by kernel_rfl)
theorem J8{a b:Nat}(ha:a<5)(hb:b<5):IntMulOk a b:=xA (J7 ha) (J7 hb) (by decide)
noncomputable abbrev pr(x:Str)(i:aj):AV:= .tup [.str x,.int i]
theorem vf(x:Str)(i:aj):aM 8 (pr x i):= .tup λa ha=>by
 rcases aY.mp ha with rfl |ha
 .exact .str _ _
 .rw[aW.mp ha];exact .int _ _
noncomputable abbrev vG:ae AV:=[pr (S "add") 3,pr (S "mul") 3,pr (S "neg") 2]
theorem Im: ∀a∈vG,aM 8 a:=λa ha=>by
 rcases aY.mp ha with rfl |ha
 .exact vf _ _
 .rcases aY.mp ha with rfl |ha
  .exact vf _ _
  .rw[aW.mp ha];exact vf _ _
theorem Wk:pr (S "x") 1∉vG:=λh=>by
 rcases aY.mp h with e |h
 .injection e with e;injection (eC e).1 with e;exact ax e (by decide)
 .rcases aY.mp h with e |h
  .injection e with e;injection (eC e).1 with e;exact ax e (by decide)
  .have e:=aW.mp h
   injection e with e;injection (eC e).1 with e;exact ax e (by decide)
set_option maxHeartbeats 8000000 in
theorem Io(hk:k<M)(hM:M<5): ∀(d:Nat) (t:aF) {σ:ah} {Q:AV->ah->Prop},t.dep<d->Q (am (t.ev M (gI M k))) σ->aT (3*d+3) (.ref 683) [vc M,t.av,J6 k] σ Q:=by
 have nd:(([(S "x",k)]:ae (Str×Nat)).map (·.1)).Nodup:=fF.mpr ⟨jf,fA⟩
 have kj:(M:aj)≠0:=λe=>by have:M=0:=rX e;lia
 intro d
 induction d with
 |zero=>intro t σ Q hd;exact ax hd (Nat.not_lt_zero _)
 |succ d ih=>
  intro t σ Q hd q
  show aT (3*d+3+3) _ _ _ _
  have et:=Tree.i6 Lf.s t
  have tl:=jj Lf.s t
  rw[show t.av= .tup (.str (t.op Lf.s)::t.kids.map aF.av) from et]
  refine mG (S "self") (S "term") (S "env") ?_
  intro Lo ev mv
  refine cg (oH (iZ (kG (bu rfl ?_))))
  refine bq (.builtin "len") ?_
  show ww
  refine dL (.inl (.tup _)) (t1 tl) ?_
  show ww
  have Zy: ∀{j},3*d+3=j->True:=λω=>trivial
  have rest: ∀(b:Bool),True:=λω=>trivial
  clear Zy rest
  by_cases o8: ∃i,t= .lf i
  .obtain⟨i,rfl⟩:=o8
   refine jt ⟨true,rfl,bS rfl (kG (bu rfl (bh ?_)))⟩
   show ww
   refine dC (λω ω=>rfl) (c_ _) (t1 tl) rfl ?_
   show ww
   by_cases hi:i= .vx
   .subst hi
    refine ui ef (k:=S "x") rfl (.ca _) nd ⟨false,by rw[dS,if_pos rfl];rfl,bL rfl (bL rfl (e_none (aN ?_)))⟩
    intro mv
    refine eM (bu rfl ?_)
    show ww
    refine rY ⟨_,rfl,rfl,te (bu rfl (e_tuple (l_cons (bh ?_))))⟩
    show ww
    refine dC (λω ω=>rfl) (c_ _) (t1 tl) rfl ?_
    show ww
    refine bq (.builtin "len") ?_
    show ww
    refine dL (.inl (.tup _)) (t1 tl) ?_
    show ww
    refine⟨t2 (n:=2) (by decide),?_⟩
    show wq
    refine uh (l:=vG) (x:=pr (S "x") 1) Im (vf _ _) ?_
    refine⟨_,rfl,?_,bC ?_⟩
    .rw[cu Wk];rfl
    refine bY 650 ?_
    show ww
    exact(TW q).less (by lia)
   .have hx:i.s≠S "x":=λe=>hi (by cases i<;>first |rfl |exact ax e (by decide))
    refine ui ef (k:=i.s) rfl (.ca _) nd ⟨true,by rw[dS,aK λe=>hx e.symm];rfl,bS rfl (jJ (bS rfl ?_))⟩
    refine bY 636 ?_
    show ww
    refine bh ?_
    show ww
    refine dC (λω ω=>rfl) (c_ _) (t1 tl) rfl ?_
    show ww
    refine(TV (U9 hi) (aN (te (bu rfl ?_)))).less (by lia)
    show ww
    refine rY ⟨_,rfl,rfl,bC (bR ?_)⟩
    show ww
    refine lM (jM kj ?_)
    rw[oF,show i.dig%M=gI M k i from by cases i<;>first |rfl |exact Nat.zero_mod _ |exact ax rfl hi]
    exact q
  have mW:t.kids.length≠0:=λe=>o8 (by cases t with |lf i=>exact⟨i,rfl⟩ |ng a=>cases e |ad a b=>cases e |ml a b=>cases e)
  have XA:pr (t.op Lf.s) ((AV.str (t.op Lf.s)::t.kids.map aF.av).length:Nat)∈vG:=by
   cases t with
   |lf i=>exact ax ⟨i,rfl⟩ o8
   |ng a=>exact .tail _ (.tail _ (.head _))
   |ad a b=>exact .head _
   |ml a b=>exact .tail _ (.head _)
  refine jt ⟨false,(by rw[gh,ar];exact congrArg (λb=>AV.raw (.bool b)) (pW.mpr λe=>mW (by lia))),bL rfl (bL rfl (e_none (aN ?_)))⟩
  intro mv
  refine eM (bu rfl ?_)
  show ww
  refine rY ⟨_,rfl,rfl,eM (bu rfl (e_tuple (l_cons (bh ?_))))⟩
  show ww
  refine dC (λω ω=>rfl) (c_ _) (t1 tl) rfl ?_
  show ww
  refine bq (.builtin "len") ?_
  show ww
  refine dL (.inl (.tup _)) (t1 tl) ?_
  show ww
  refine⟨t2 (n:=2) (by decide),?_⟩
  show wq
  refine uh (l:=vG) (x:=pr (t.op Lf.s) _) Im (vf _ _) ?_
  refine⟨_,rfl,by rw[decide_eq_true XA];rfl,?_⟩
  refine oO [(S "self",Lo+1),(S "env",Lo+2)] (w_seq (hG (lo:=some 1) (hi:=none) (.int 1 _ _) .none ?_))
  show ww
  refine jD (Nat.succ_le_succ (Nat.zero_le _)) (t2 tl) ?_
  refine⟨_,.tup _,qj (L:=t.kids) (f:=aF.av) (λu=>am (u.ev M (gI M k))) (t2 (Nat.lt_of_le_of_lt (oz t) (by decide))) (λC u hu=>?_) ?_⟩
  .refine aN (zd 683 ?_)
   show ww
   refine⟨_,_,rfl,by kernel_rfl,rfl,?_⟩
   show ww
   exact ih u (Nat.lt_of_lt_of_le (Tree.nG hu) (Nat.le_of_lt_succ hd)) ⟨rfl,rfl⟩
  have kz:(t.kids.map λu=>am (u.ev M (gI M k))).length<2^63:=t1 (by rw[ar];exact Nat.lt_of_le_of_lt (oz t) (by decide))
  cases t with
  |lf i=>exact ax ⟨i,rfl⟩ o8
  |ng a=>
   refine te (bu rfl (bh ?_))
   show ww
   refine dC (λω ω=>rfl) (c_ _) (t1 tl) rfl ?_
   show ww
   refine fW ⟨_,rfl,decide_eq_true rfl,bC (bR (Wp (bh ?_)))⟩
   show ww
   refine g9 (.lst _) (λω ω=>rfl) (c_ _) kz rfl (Vy ?_)
   refine lM (jM kj ?_)
   rw[Sj (nO hk a)];exact q
  |ad a b=>
   refine eM (bu rfl (bh ?_))
   show ww
   refine dC (λω ω=>rfl) (c_ _) (t1 tl) rfl ?_
   show ww
   refine fW ⟨_,rfl,cu (show S "add"≠S "neg" by decide),bC (bR (oH (bu rfl (bh ?_))))⟩
   show ww
   refine dC (λω ω=>rfl) (c_ _) (t1 tl) rfl ?_
   show ww
   refine fW ⟨_,rfl,bS (decide_eq_true rfl) (bR (bh ?_))⟩
   show ww
   refine g9 (.lst _) (λω ω=>rfl) (c_ _) kz rfl (bh ?_)
   show ww
   refine g9 (.lst _) (λω ω=>rfl) (by decide) kz rfl (gp ?_)
   refine lM (jM kj ?_)
   rw[<- kq,oF];exact q
  |ml a b=>
   refine eM (bu rfl (bh ?_))
   show ww
   refine dC (λω ω=>rfl) (c_ _) (t1 tl) rfl ?_
   show ww
   refine fW ⟨_,rfl,cu (show S "mul"≠S "neg" by decide),bC (bR (oH (bu rfl (bh ?_))))⟩
   show ww
   refine dC (λω ω=>rfl) (c_ _) (t1 tl) rfl ?_
   show ww
   refine fW ⟨_,rfl,bL (cu (show S "mul"≠S "add" by decide)) (bR (bh ?_))⟩
   show ww
   refine g9 (.lst _) (λω ω=>rfl) (c_ _) kz rfl (bh ?_)
   show ww
   refine g9 (.lst _) (λω ω=>rfl) (by decide) kz rfl (sQ (J8 (Nat.lt_trans (nO hk a) hM) (Nat.lt_trans (nO hk b) hM)) ?_)
   refine lM (jM kj ?_)
   rw[<- FF,oF];exact q
end
noncomputable abbrev cM:=ae (Str×Nat)
noncomputable abbrev mJ(θ:cM):AV:= .ca (aZ .str am θ)
noncomputable abbrev jr(θ:cM):ae Str:=θ.map (·.1)
structure yY(D:HD)(θ:cM):Prop where
 nd:(jr θ).Nodup
 lt: ∀p∈θ,p.2<D.par.length
structure fg(D:HD)(θ:cM)(ps:ae bP)(dj:cM):Prop where
 ok:yY D dj
 key: ∀x,x∈jr dj↔x∈jr θ\/ ∃p∈ps,∃v∈p.c9,v.eA=true/\x=v.s
 len:dj.length<=θ.length+(ps.map λp=>p.c9.length).sum
noncomputable def bd:bP->Nat
 | .lf v=>if v.eA then 1 else 26
 | .ng a=>26*bd a
 | .ad a b=>26*(bd a*bd b)
 | .ml a b=>26*(bd a*bd b)
theorem fg.nil{D:HD}{θ:cM}(h:yY D θ):fg D θ [] θ:=⟨h,λx=>⟨.inl,λh=>h.elim id λ⟨_,h,_⟩=>by cases h⟩,Nat.le_refl _⟩
theorem fg.snoc{D:HD}{θ dj v_:cM}{ps:ae bP}{p:bP}(h:fg D θ ps dj)(k:fg D dj [p] v_):fg D θ (ps++[p]) v_:=by
 refine⟨k.ok,λx=>?_,?_⟩
 .rw[k.key,h.key]
  constructor
  .rintro((h |⟨p',h1,h2⟩) |⟨p',h1,h2⟩)
   .exact .inl h
   .exact .inr ⟨p',gc _ h1,h2⟩
   .exact .inr ⟨p',iN _ h1,h2⟩
  .rintro(h |⟨p',h1,h2⟩)
   .exact .inl (.inl h)
   .rcases cy.mp h1 with h1 |h1
    .exact .inl (.inr ⟨p',h1,h2⟩)
    .exact .inr ⟨p',h1,h2⟩
 .rw[bX,rU]
  exact Nat.le_trans k.len (by rw[<- Nat.add_assoc];exact Nat.add_le_add_right h.len _)
theorem fg.var{D:HD}{θ:cM}{v:PL}{c:Nat}(h:yY D θ)(hv:v.eA=true)(hc:c<D.par.length):fg D θ [.lf v] (bH v.s c θ):=by
 refine⟨⟨kE h.nd,λp hp=>?_⟩,λx=>?_,?_⟩
 .rcases iT hp with rfl |hp
  .exact hc
  .exact h.lt p hp
 .have e:(∃p∈[Tree.lf v],∃w∈Tree.c9 p,w.eA=true/\x=w.s)↔x=v.s:=
   ⟨λ⟨p,h1,w,h2,h3,h4⟩=>by rw[aW.mp h1] at h2;rw[h4,aW.mp (show w∈[v] from h2)],λe=>⟨_,.head _,v,.head _,hv,e⟩⟩
  rw[e]
  by_cases q:v.s∈jr θ
  .rw[show jr (bH v.s c θ)=jr θ from r8 q]
   exact⟨.inl,λh=>h.elim id λe=>e▸q⟩
  .rw[show jr (bH v.s c θ)=jr θ++[v.s] from by unfold jr;rw[kA (lm.mpr q),bX];rfl,cy,aW]
 .exact uM _ _ _
variable{θ:cM}
section
variable{n:Nat}{af:Env}{m:au}{h:HA}{D:HD}{σ aw:ah}{Q:AV->ah->Prop}{M K:Nat}{ts:ae aF}
theorem Sk(θ:cM): ∀e∈aZ AV.str am θ,dp e.1=1:=λe he=>by obtain⟨p,_,rfl⟩:=aU.mp he;rfl
theorem U_(h:(jr θ).Nodup):((aZ AV.str am θ).map (·.1)).Nodup:=by
 have:(aZ AV.str am θ).map (·.1)=(jr θ).map AV.str:=by unfold aZ jr;rw[cQ,cQ];rfl
 rw[this]
 exact Fx AV.str (λa b fS q=>fS (by injection q)) h
structure TX(D:HD)(a:Nat)(L:ae Nd):Prop where
 mem: ∀s∈L,∃k t,k<D.par.length/\aE D.par k=aE D.par a/\D.nodes[k]? =some t/\s=t.map (aE D.par)/\(∀x∈t.kids,x<D.par.length)
 back: ∀k t,k<D.par.length->aE D.par k=aE D.par a->D.nodes[k]? =some t->t.map (aE D.par)∈L
 len:L.length<=D.par.length
theorem Hz(T:HS h D σ)(O:bU M K D ts)(hn:D.nodes.length<=50){a:Nat}(ha:a<D.par.length)(q: ∀L:ae Nd,TX D a L->Q (.lst (L.map dG)) σ):aT 12 (.ref 447) [h.self,am a] σ Q:=by
 obtain⟨l,hl,_⟩:=O.has a ha
 obtain⟨l1,l2⟩:=O.kh _ _ hl
 have ll:=nt _ l1 λx hx=>(l2 x hx).1
 have rr:aE D.par (aE D.par a)=aE D.par a:=QI O.down a
 refine Pp T (O.hz hn) ha hl (Nat.le_trans ll (O.pt▸hn)) (λk hk=>?_) λL h1 h2=>q L ⟨λs hs=>?_,λk t hk hr ht=>?_,Nat.le_trans h2 ll⟩
 .have hk:=(l2 k hk).1
  exact⟨_,cL (O.pt▸hk),λx hx=>Nat.lt_trans ((O.tree k _ (cL (O.pt▸hk))).1 x hx) hk⟩
 .obtain⟨k,hk,t,ht,e⟩:=(h1 s).mp hs
  have bJ:=l2 k hk
  exact⟨k,t,bJ.1,bJ.2.trans rr,ht,e,λx hx=>Nat.lt_trans ((O.tree k t ht).1 x hx) bJ.1⟩
 .obtain⟨l',h3,h4⟩:=O.has k hk
  rw[hr,hl] at h3;cases h3
  exact(h1 _).mpr ⟨k,h4,t,ht,rfl⟩
noncomputable def iK(l:ae bP):Nat:=(l.map bd).foldr (· * ·) 1
theorem HC(l:ae bP)(p:bP):iK (l++[p])=iK l*bd p:=by
 induction l with
 |nil=>show bd p*1=1*bd p;rw[Nat.mul_one,Nat.one_mul]
 |cons a r ih=>show bd a*iK (r++[p])=bd a*iK r*bd p;rw[ih,Nat.mul_assoc]
theorem sH: ∀p:bP,1<=bd p
 | .lf v=>by show 1<=if v.eA then 1 else 26;split<;>decide
 | .ng a=>Nat.mul_pos (by decide) (sH a)
 | .ad a b=>Nat.mul_pos (by decide) (Nat.mul_pos (sH a) (sH b))
 | .ml a b=>Nat.mul_pos (by decide) (Nat.mul_pos (sH a) (sH b))
theorem B0: ∀l:ae bP,1<=iK l
 |[]=>Nat.le_refl _
 |a::r=>Nat.mul_pos (sH a) (B0 r)
theorem HE: ∀(l:ae bP) (i:Nat),iK (l.take i)<=iK l
 |l,0=>B0 l
 |[],_+1=>Nat.le_refl _
 |a::r,i+1=>Nat.mul_le_mul_left _ (HE r i)
theorem TY{p:bP}(h:p.isVar=false):bd p=26*iK p.kids:=by
 cases p with
 |lf v=>show(if v.eA then 1 else 26)=_;rw[aK (show ¬v.eA=true from by rw[show v.eA=false from h];decide)];rfl
 |ng a=>show 26*bd a=26*(bd a*1);rw[Nat.mul_one]
 |ad a b=>show 26*(bd a*bd b)=26*(bd a*(bd b*1));rw[Nat.mul_one]
 |ml a b=>show 26*(bd a*bd b)=26*(bd a*(bd b*1));rw[Nat.mul_one]
noncomputable def rF(l:ae bP):Nat:=(l.map λp=>p.c9.length).sum
theorem Sl(l:ae bP)(p:bP):rF (l++[p])=rF l+p.c9.length:=by
 unfold rF;rw[bX,rU];rfl
theorem HF: ∀(l:ae bP) (i:Nat),rF (l.take i)<=rF l
 |l,0=>Nat.zero_le _
 |[],_+1=>Nat.le_refl _
 |a::r,i+1=>Nat.add_le_add_left (HF r i) _
theorem HG{p:bP}(h:p.isVar=false):rF p.kids<=p.c9.length:=by
 cases p with
 |lf v=>exact Nat.zero_le _
 |ng a=>exact Nat.le_refl _
 |ad a b=>show _<=(a.c9++b.c9).length;rw[bQ];exact Nat.le_refl _
 |ml a b=>show _<=(a.c9++b.c9).length;rw[bQ];exact Nat.le_refl _
theorem fg.up{dj:cM}{p:bP}(h:p.isVar=false)(E:fg D θ p.kids dj):fg D θ [p] dj:=by
 refine⟨E.ok,λx=>(E.key x).trans (or_congr Iff.rfl ?_),Nat.le_trans E.len (Nat.add_le_add_left (Nat.le_trans (HG h) (Nat.le_refl _)) _)⟩
 constructor
 .rintro⟨k,h1,v,h2,h3⟩
  exact⟨p,.head _,v,Ih h1 h2,h3⟩
 .rintro⟨k,h1,v,h2,h3,h4⟩
  rw[aW.mp h1] at h2
  cases p with
  |lf w=>rw[aW.mp (show v∈[w] from h2),show w.eA=false from h] at h3;cases h3
  |ng a=>exact⟨a,.head _,v,h2,h3,h4⟩
  |ad a b=>exact(cy.mp (show v∈a.c9++b.c9 from h2)).elim (λh2=>⟨a,.head _,v,h2,h3,h4⟩) λh2=>⟨b,.tail _ (.head _),v,h2,h3,h4⟩
  |ml a b=>exact(cy.mp (show v∈a.c9++b.c9 from h2)).elim (λh2=>⟨a,.head _,v,h2,h3,h4⟩) λh2=>⟨b,.tail _ (.head _),v,h2,h3,h4⟩
theorem yh: ∀{l l':ae AV},l.length=l'.length->(jN l l').length=l.length
 |[],[],_=>rfl
 |a::r,b::t,h=>by show(jN r t).length+1=r.length+1;rw[yh (Nat.succ.inj h)]
theorem yi: ∀{l l':ae AV} {i:Nat} {x:AV},(jN l l')[i]? =some x-> ∃a b,l[i]? =some a/\l'[i]? =some b/\x= .tup [a,b]
 |a::r,b::t,0,x,h=>⟨a,b,rfl,rfl,(aB.some.inj h).symm⟩
 |a::r,b::t,i+1,x,h=>yi (l:=r) (l':=t) h
theorem Sm{Q:AF->au->ah->Prop}{r:ae Stmt}{px pos pos':Pos}{t0 t1 gV fT elt:Expr}(cl:ae (Str×Addr))
  (h:iy n af t0 gV m σ (Ci n af scope cl t0 t1 fT elt m λacc aO=>ch n af r (fN m x (.lst acc)) aO Q)) (H:kI af m scope cl) (hs: ∀x,pure x=g0 gV af x) (og: ∀af x,pure x=g0 fT af x) (hx:some .local=af.kindOf x)
  (q8:pure true=uw (.ListComp elt [⟨t0,gV,[],0⟩,⟨t1,fT,[],0⟩] scope pos) (some (.Name x px)) pos'.line af):
  ch n af (.Assign [.Name x px] (.ListComp elt [⟨t0,gV,[],0⟩,⟨t1,fT,[],0⟩] scope pos) pos'::r) m σ Q:=jW (Tz cl H (λx=>(hs x).symm) (λe x=>(og e x).symm) hx.symm q8.symm h)
structure WI(D:HD)(σ:ah)(wx wd fd:Addr)(h:HA)(θ:cM)(p:bP)(i:Nat)(m:au)(aw:ah):Prop where
 k:dg σ aw
 f: ∃Ls:ae cM,aw fd=some (.list (Ls.map mJ))/\(∀dj∈Ls,fg D θ [p] dj)/\Ls.length<=i*iK p.kids
 m1:m (S "self")=some (.obj wx 507 wd)
 m2:m (S "table")=some (mJ θ)
 m3:m (S "pattern")=some p.av
 m4:m (S "op")=some (.str (p.op PL.s))
 m5:m (S "found")=some (.raw (.ref fd))
structure WK(D:HD)(aw:ah)(wx wd fd:Addr)(θ:cM)(p:bP)(j:Nat)(m:au)(a_:ah):Prop where
 e:a_=aw
 t: ∃Ts:ae cM,m (S "tables")=some (.lst (Ts.map mJ))/\(∀dj∈Ts,fg D θ (p.kids.take j) dj)/\Ts.length<=iK (p.kids.take j)
 m1:m (S "self")=some (.obj wx 507 wd)
 m2:m (S "table")=some (mJ θ)
 m3:m (S "pattern")=some (.tup (.str (p.op PL.s)::p.kids.map bP.av))
 m4:m (S "op")=some (.str (p.op PL.s))
 m5:m (S "found")=some (.raw (.ref fd))
theorem w_ext{wx wd:Addr}(O:bU M K D ts)(hn:D.nodes.length<=26): ∀(d:Nat) (p:bP) {c:Nat} {θ:cM} {σ:ah} {Q:AV->ah->Prop},HS h D σ->σ wd=some (.attrs [(S "heap",h.self)])->p.dep<d->c<D.par.length->yY D θ->θ.length+p.c9.length<=20->bd p<=20000->
  (∀Ls:ae cM,(∀dj∈Ls,fg D θ [p] dj)->Ls.length<=bd p->Q (.lst (Ls.map mJ)) σ)->aT (12+3*d) (.ref 492) [.obj wx 507 wd,mJ θ,am c,p.av] σ Q:=by
 intro d
 induction d with
 |zero=>intro p c θ σ Q T oi hd;exact ax hd (Nat.not_lt_zero _)
 |succ d ih=>
  intro p c θ σ Q T oi hd hc eB hz hb q
  show aT ((12+3*d)+3) _ _ _ _
  have et:p.av= .tup (.str (p.op PL.s)::p.kids.map bP.av):=Tree.i6 _ _
  have tl:=jj PL.s p
  have tz:(aZ AV.str am θ).length<=sizeLine:=by rw[kD];exact t2 (Nat.lt_of_le_of_lt (Nat.le_trans (Nat.le_add_right _ _) hz) (by decide))
  refine mi ?_
  refine y_ (S "self") (S "table") (S "c") (S "pattern") ?_ (by with_unfolding_all rfl) (by kernel_rfl) λω ω ω ω=>rfl
  intro Lo ev mv
  refine cg (bh ?_)
  show ww
  rw[et]
  refine dC (λω ω=>rfl) (c_ _) (t1 tl) rfl (aN ?_)
  intro mv
  refine gv (mh (λω=>rfl) ?_)
  refine bY 86 ?_
  show ww
  rw[<- et]
  refine(yX p ⟨_,rfl,?_⟩).less (by lia)
  by_cases hv:p.isVar=true
  .refine bS hv ?_
   cases p with
   |ng a=>cases hv
   |ad a b=>cases hv
   |ml a b=>cases hv
   |lf v=>
   have E:=fg.var eB hv hc
   refine cg ?_
   refine bq (.type "dict") ?_
   show ww
   refine Pm (Sk θ) (U_ eB.nd) tz λdd pR=>aN ?_
   intro mv
   refine cg ?_
   show ww
   refine o5 ef (f:=am) (λω ω ω ω=>rfl) ?_
   show ww
   refine⟨dd,θ,v.s,c,rfl,rfl,rfl,bB _ _ _,eB.nd,Nat.lt_of_le_of_lt (Nat.le_trans (Nat.le_add_right _ _) hz) (by decide),?_⟩
   have hd2:aA (aA σ dd (.dict (aZ AV.str am θ))) dd (.dict (aZ AV.str am (bH v.s c θ))) dd=_:=bB _ _ _
   have k2:dg σ (aA (aA σ dd (.dict (aZ AV.str am θ))) dd (.dict (aZ AV.str am (bH v.s c θ)))):=λa o e=>aP (aP e (bp e pR)) (bp e pR)
   revert hd2 k2
   refine dP (aA (aA σ dd _) dd _) λa_=>?_
   intro hd2 k2
   refine bC (oH (bu rfl (dF (λω=>rfl) ?_)))
   show ww
   refine⟨_,oY (.ca _),dI,?_⟩
   show ww
   refine on ef (k:=v.s) rfl (.ca _) eB.nd ?_
   show ww
   have no: ∀{af:Env} {m:au} {p1:Pos} {R:AV->ah->Prop},R (.lst []) a_->aQ (12+3*d) af (.List [] p1) m a_ R:=λr=>gm (l_nil ⟨Nat.zero_le _,r⟩)
   have q0:=q [] (λω h=>by cases h) (Nat.zero_le _)
   have q1:=q [bH v.s c θ] (λx h=>by rw[aW.mp h];exact E) (by show 1<=if v.eA then 1 else 26;rw[if_pos (show v.eA=true from hv)];exact Nat.le_refl _)
   cases hg:aX v.s θ with
   |none=>
    refine jt ⟨_,rfl,bS (nM rfl) (gm (l_cons (nQ ?_)))⟩
    show ww
    refine⟨_,_,.dict hd2,l_nil ⟨t2 (n:=1) (by decide),σ,λa o e=>(iY _ (bp e pR)).trans (k2 a o e),q1⟩⟩
   |some j=>
    by_cases e:j=c
    .refine jt ⟨_,rfl,bS (nM e) (gm (l_cons (nQ ?_)))⟩
     show ww
     refine⟨_,_,.dict hd2,l_nil ⟨t2 (n:=1) (by decide),σ,λa o e=>(iY _ (bp e pR)).trans (k2 a o e),q1⟩⟩
    .exact jt ⟨_,rfl,bL (nJ e) (no ⟨σ,k2,q0⟩)⟩
  .refine bL (by simpa using hv) (bE (cg (sB (l_nil ⟨Nat.zero_le _,λfd kR=>aN ?_⟩))))
   have rE:aA σ fd (.list []) fd=some (.list (([]:ae cM).map mJ)):=bB _ _ _
   have k0:dg σ (aA σ fd (.list [])):=iR kR
   revert rE k0
   refine dP (aA σ fd _) λfU=>?_
   intro rE k0
   have T0:HS h D fU:=T.keep λc ω o e=>k0 c o e
   have wY:=k0 _ _ oi
   refine qr (λω ω=>rfl) (w_seq ?_)
   refine bG 447 ?_
   refine aS wY ?_
   refine bI T0.at_ ?_
   show ww
   refine(Hz T0 O (Nat.le_trans hn (by decide)) hc λL hL=>?_).less (by lia)
   have hv:p.isVar=false:=by simpa using hv
   have lL:L.length<=26:=Nat.le_trans hL.len (O.pt▸hn)
   have eb:=TY hv
   refine⟨_,.lst _,WI D σ wx wd fd h θ p,⟨k0,⟨[],rE,(λω h=>nomatch h),Nat.zero_le _⟩,rfl,rfl,rfl,rfl,rfl⟩,?_,?_⟩
   .intro i a m1 aw hi I Qv
    rw[cP] at hi
    obtain⟨s,hs,rfl⟩:=dA.mp hi
    obtain⟨kk,⟨Ls,f1,f2,f3⟩,jd,rG,rH,pS,Mp⟩:=I
    obtain⟨x,t,_,_,_,es,tk⟩:=hL.mem s (cO hs)
    have sk: ∀x∈s.kids,x<D.par.length:=λx hx=>by
     rw[es,Sh.uL] at hx
     obtain⟨y,hy,rfl⟩:=aU.mp hx
     exact kF O.down (tk y hy)
    have sl:(AV.str s.op::s.kids.map am).length<1000:=by rw[gh,ar];exact Nat.lt_of_le_of_lt (Nat.succ_le_succ s.ji) (by decide)
    have skip: ∀{a_:ah} {m2:au},a_=aw->m2=fN m1 (S "node") (dG s)->WI D σ wx wd fd h θ p (i+1) m2 a_:=λe1 e2=>by
     subst e1 e2
     exact⟨kk,⟨Ls,f1,f2,Nat.le_trans f3 (Nat.mul_le_mul_right _ (Nat.le_succ i))⟩,jd,rG,rH,pS,Mp⟩
    refine aN ?_
    intro mv
    refine gv (iZ (kG (bu rfl (bh ?_))))
    show ww
    refine dC (λω ω=>rfl) (c_ _) (t1 sl) rfl ?_
    show ww
    refine fW ⟨_,rfl,?_⟩
    by_cases he:s.op=p.op PL.s
    .refine bS (decide_eq_true he) (kG (bu rfl ?_))
     refine bq (.builtin "len") ?_
     show ww
     refine dL (.inl (.tup _)) (t1 sl) ?_
     refine bq (.builtin "len") ?_
     show ww
     rw[et]
     refine dL (.inl (.tup _)) (t1 tl) (jt ⟨_,rfl,?_⟩)
     by_cases hl:s.kids.length=p.kids.length
     .refine bS (nM (by rw[gh,gh,ar,ar,hl])) (jJ (bS rfl ?_))
      refine cg (gm (l_cons ?_))
      show ww
      refine⟨t2 (n:=1) (by decide),aN ?_⟩
      intro mv
      refine qr (λω ω=>rfl) (w_zip (λω=>rfl) (ut (v:= .type "zip") ⟨rfl,?_⟩ (by kernel_rfl) rfl))
      refine l_cons (hG (lo:=some 1) (hi:=none) (.int 1 _ _) .none ?_)
      show ww
      refine jD (Nat.succ_le_succ (Nat.zero_le _)) (t2 sl) (l_cons (hG (lo:=some 1) (hi:=none) (.int 1 _ _) .none ?_))
      show ww
      rw[et]
      refine jD (Nat.succ_le_succ (Nat.zero_le _)) (t2 tl) (l_nil ⟨_,_,_,_,rfl,.tup _ _,WK D aw wx wd fd θ p,⟨rfl,⟨[θ],rfl,λdj h=>?_,Nat.le_refl _⟩,jd,rG,rH.trans (congrArg some et),pS,Mp⟩,?_,?_⟩)
      .rw[aW.mp h];exact fg.nil eB
      .intro j a m2 a_ hj I Qv
       obtain⟨e2,⟨Ts,kZ,rI,wZ⟩,n1,n2,n3,n4,n5⟩:=I
       subst e2
       obtain⟨x,y,hx,hy,rfl⟩:=yi (l:=s.kids.map am) (l':=p.kids.map bP.av) hj
       rw[cP] at hx hy
       obtain⟨k,hk,rfl⟩:=dA.mp hx
       obtain⟨u,hu,rfl⟩:=dA.mp hy
       have ku:=sk k (cO hk)
       have uu:=cO hu
       have zX:p.kids.take (j+1)=p.kids.take j++[u]:=by rw[fh,hu];rfl
       have b1:iK (p.kids.take j)*bd u<=iK p.kids:=by rw[<- HC,<- zX];exact HE _ _
       have b2:iK p.kids<=20000:=Nat.le_trans (Nat.le_mul_of_pos_left _ (by decide)) (Nat.le_trans (Nat.le_of_eq eb.symm) hb)
       have b3:bd u<=20000:=Nat.le_trans (Nat.le_trans (Nat.le_mul_of_pos_left _ (B0 _)) b1) b2
       have z1:θ.length+(rF (p.kids.take j)+u.c9.length)<=20:=by
        refine Nat.le_trans (Nat.add_le_add_left ?_ _) hz
        rw[<- Sl,<- zX];exact Nat.le_trans (HF _ _) (HG hv)
       have T1:HS h D a_:=T.keep λc ω o e=>kk c o e
       have Mq:=kk _ _ oi
       refine kC (.tup _) (eR (aN (eR (aN (kH ?_)))))
       refine Sm [(S "self",Lo+1),(S "part",Lo+3),(S "kid",Lo+2)] (w_seq ?_) wv (λω=>rfl) (λω ω=>rfl) rfl rfl
       show ww
       refine⟨_,.lst _,λi acc σ'=>σ'=a_/\ ∃Us:ae cM,acc=Us.map mJ/\(∀dj∈Us,fg D θ (p.kids.take (j+1)) dj)/\Us.length<=i*bd u,⟨rfl,[],rfl,(λω h=>nomatch h),Nat.zero_le _⟩,?_,?_⟩
       .intro C i a acc cn hi I ce cm Jv
        obtain⟨e3,Us,e4,u1,u2⟩:=I
        subst e3 e4
        rw[cP] at hi
        obtain⟨Mr,KQ,rfl⟩:=dA.mp hi
        have E1:=rI Mr (cO KQ)
        have i1:i+1<=iK (p.kids.take j):=Nat.le_trans (cV.mp KQ).1 wZ
        refine aN (w_seq ?_)
        refine bG 492 ?_
        show ww
        refine bI Mq ?_
        show ww
        refine ih u (c:=k) (θ:=Mr) T1 Mq (Nat.lt_of_lt_of_le (Tree.nG uu) (Nat.le_of_lt_succ hd)) ku E1.ok (Nat.le_trans (Nat.add_le_add_right E1.len _) (by rw[Nat.add_assoc];exact z1)) b3 λLs l1 l2=>⟨_,.lst _,λj' i9 σ'=>σ'=cn/\i9=(Us++Ls.take j').map mJ,λω=>none,(λω ω e=>nomatch e),⟨rfl,by rw[pZ,lT]⟩,?_,?_⟩
        .intro j' b i9 eO qW I
         obtain⟨e5,e6⟩:=I
         subst e5 e6
         rw[cP] at qW
         obtain⟨Zz,XB,rfl⟩:=dA.mp qW
         refine aN ⟨(λω ω e=>nomatch e),iV (bS rfl ?_)⟩
         show ww
         refine⟨?_,rfl,?_⟩
         .rw[ar,bQ,jA]
          refine Nat.lt_of_le_of_lt (Nat.add_le_add u2 (Nat.le_trans (Nat.min_le_right _ _) l2)) ?_
          rw[<- Nat.succ_mul]
          exact Nat.lt_of_le_of_lt (Nat.le_trans (Nat.mul_le_mul_right _ i1) (Nat.le_trans b1 b2)) (by rw[eZ];decide)
         .rw[fh,XB,<- Ay,bX (l₂:=(some Zz).toList)];rfl
        .intro i9 eO I
         obtain⟨e5,e6⟩:=I
         subst e5 e6
         rw[ar,g8]
         refine⟨rfl,_,rfl,λdj h'=>?_,?_⟩
         .rcases cy.mp h' with h' |h'
          .exact u1 dj h'
          .rw[zX];exact E1.snoc (l1 dj h')
         .rw[bQ,Nat.succ_mul];exact Nat.add_le_add u2 l2
       .intro acc cn I
        obtain⟨e3,Us,e4,u1,u2⟩:=I
        subst e3 e4
        refine bE ⟨rfl,⟨Us,rfl,u1,?_⟩,n1,n2,n3,n4,n5⟩
        rw[ar] at u2
        rw[zX,HC]
        exact Nat.le_trans u2 (Nat.mul_le_mul_right _ wZ)
      .intro m2 a_ I
       obtain⟨e2,⟨Ts,kZ,rI,wZ⟩,n1,n2,n3,n4,n5⟩:=I
       subst e2
       have zl:(jN ((AV.str s.op::s.kids.map am).drop 1) ((AV.str (p.op PL.s)::p.kids.map bP.av).drop 1)).length=p.kids.length:=
        (yh (l:=s.kids.map am) (l':=p.kids.map bP.av) (by rw[ar,ar,hl])).trans ((ar _).trans hl)
       rw[zl,g8] at rI wZ
       refine fb (dF (λω=>rfl) ?_)
       show ww
       refine⟨_,xZ (.ref f1),dI,?_⟩
       show ww
       have b2:iK p.kids<=20000:=Nat.le_trans (Nat.le_mul_of_pos_left _ (by decide)) (Nat.le_trans (Nat.le_of_eq eb.symm) hb)
       have il:i+1<=L.length:=(cV.mp hs).1
       have fz:Ls.length+Ts.length<=(i+1)*iK p.kids:=by rw[Nat.succ_mul];exact Nat.add_le_add f3 wZ
       refine x0 f1 (.lst _) ?_ ⟨fJ,bE (bE ⟨λa o e=>aP (kk a o e) (bp e kR),⟨Ls++Ts,?_,λdj h'=>?_,?_⟩,n1,n2,n3.trans (congrArg some et.symm),n4,n5⟩)⟩
       .rw[ar,ar]
        exact Nat.le_trans fz (Nat.le_trans (Nat.mul_le_mul (Nat.le_trans il lL) b2) (by rw[eZ];decide))
       .rw[bX];exact bB _ _ _
       .rcases cy.mp h' with h' |h'
        .exact f2 dj h'
        .exact(rI dj h').up hv
       .rw[bQ];exact fz
     .exact bL (nJ (by rw[gh,gh,ar,ar];exactλe=>hl (Nat.succ.inj e))) (bL rfl (bE (bE (skip rfl rfl))))
    .exact bL (cu he) (bL rfl (bE (bE (skip rfl rfl))))
   .intro m1 aw I
    obtain⟨Ls,f1,f2,f3⟩:=I.f
    have m5:=I.m5
    refine bC (nQ ?_)
    show ww
    refine⟨_,_,.list f1,σ,λa o e=>(iY _ (bp e kR)).trans (I.k a o e),q Ls f2 (Nat.le_trans f3 ?_)⟩
    rw[ar,eb]
    exact Nat.mul_le_mul_right _ lL
end
section
noncomputable abbrev iq(p:Str×Nat):AV:= .tup [.str p.1,am p.2]
noncomputable def ig(θ:cM):AV:= .tup (θ.map iq)
noncomputable abbrev lN(p:Nat×cM):AV:= .tup [am p.1,ig p.2]
noncomputable def sI:AV->Str×Nat
 | .tup [.str x,a]=>(x,qE a)
 |_=>(S "",0)
theorem Gh(p:Str×Nat):sI (iq p)=p:=by
 show(p.1,qE (am p.2))=p
 rw[r7]
theorem A4(θ:cM):(θ.map iq).map sI=θ:=by
 rw[cQ,show sI∘iq=id from funext Gh,p_]
theorem TZ(a b:cM)(h:ig a=ig b):a=b:=by
 unfold ig at h
 injection h with h
 have:=congrArg (r9 sI) h
 rwa [A4,A4] at this
theorem HH(p:Str×Nat):aM 1 (iq p):= .tup λa ha=>by
 rcases aY.mp ha with rfl |ha
 .exact .str _ _
 .rw[aW.mp ha];exact .int _ _
theorem Ip(θ:cM):aM 2 (ig θ):= .tup λa ha=>by
 obtain⟨p,_,rfl⟩:=aU.mp ha;exact HH p
theorem k_sub:iE ig:=⟨TZ,λθ=>(Ip θ).up (by decide),λω ω=>rfl⟩
theorem HI(p q:Str×Nat):fK (iq p) (iq q):=by
 exact ct (jm (λω=>jm (λω=>qw _) λω=>ci _ _) λω=>vN _ _)
theorem Iq: ∀a b:cM,h_ (a.map iq) (b.map iq)
 |[],_=>qw _
 |_::_,[]=>True.intro
 |p::a,q::b=>jm (λω=>Iq a b) λω=>HI p q
theorem Va{l:ae cM}(h: ∀θ∈l,θ≠[]):kJ (l.map ig):=⟨.Kv λa ha=>by
  obtain⟨θ,eB,rfl⟩:=aU.mp ha
  cases θ with
  |nil=>exact ax rfl (h _ eB)
  |cons p r=>exact⟨[.str p.1,am p.2],r.map iq,rfl⟩,
 λa ha=>by obtain⟨k,_,rfl⟩:=aU.mp ha;exact(Ip k).up (by decide),λa ha b hb=>by
  obtain⟨k,_,rfl⟩:=aU.mp ha
  obtain⟨j,_,rfl⟩:=aU.mp hb
  exact ct (Iq k j)⟩
theorem PZ{out:ae AV}(h:out.Perm (θ.map iq)): ∃dj:cM,out=dj.map iq/\dj.Perm θ:=by
 refine⟨out.map sI,?_,by have:=h.map sI;rwa [A4] at this⟩
 rw[cQ]
 refine(p_ out).symm.trans (pX λa ha=>?_)
 obtain⟨p,_,rfl⟩:=aU.mp (h.mem_iff.mp ha)
 exact(congrArg iq (Gh p)).symm
theorem fg.perm{D:HD}{dj v_:cM}{ps:ae bP}(h:fg D θ ps dj)(k:v_.Perm dj):fg D θ ps v_:=
 ⟨⟨(k.map (·.1)).nodup_iff.mpr h.ok.nd,λp hp=>h.ok.lt p (k.mem_iff.mp hp)⟩,λx=>(k.map (·.1)).mem_iff.trans (h.key x),k.length_eq▸h.len⟩
abbrev mX(D:HD)(p:bP)(θ:cM):Prop:=fg D [] [p] θ
theorem Vb{D:HD}{p:bP}{l:ae cM}(hl:l.Nodup)(h2:2<=l.length)(h: ∀θ∈l,mX D p θ): ∀θ∈l,θ≠[]:=by
 intro θ eB e
 subst e
 have nk: ∀x,¬ ∃q∈[p],∃v∈q.c9,v.eA=true/\x=v.s:=λx hx=>nomatch ((h _ eB).key x).mpr (.inr hx)
 have all: ∀θ∈l,θ=[]:=λdj h'=>by
  cases dj with
  |nil=>rfl
  |cons q r=>exact ax (((h _ h').key q.1).mp (.head _)) λq=>q.elim (λq=>nomatch q) (nk _)
 cases l with
 |nil=>exact ax h2 (by decide)
 |cons a l=>cases l with
  |nil=>exact ax h2 (Nat.not_succ_le_self 1)
  |cons b r=>
  rw[all a (.head _),all b (.tail _ (.head _))] at hl
  exact(fF.mp hl).1 (.head _)
theorem G0{y:Str}(e:fN (λω=>none) x a y=some b):y=x/\b=a:=by
 unfold fN at e
 by_cases q:y=x
 .rw[if_pos q] at e;exact⟨q,(aB.some.inj e).symm⟩
 .rw[aK q] at e;cases e
theorem B6{σ:ah}{d:Addr}(h:σ d=none):fP (aA σ d o) d=σ:=by
 funext c
 by_cases e:c=d
 .rw[e,Bp,h]
 .rw[iY _ e,oQ _ _ e]
section
variable{κ β:Type}{K:κ->AV}{f:β->AV}{l:ae (κ×β)}{n:Nat}{af:Env}{m:au}{σ:ah}
inductive Wl{κ β:Type}(K:κ->AV)(f:β->AV)(b:AV)(Q:ah->Prop)(a x:AV)(aO:ah):Prop
 |mk (d:Addr) (l:ae (κ×β)) (k:κ) (v:β) (e1:a= .raw (.ref d)) (e2:x=K k) (e3:b=f v) (hd:aO d=some (.dict (aZ K f l))) (hn:(l.map (·.1)).Nodup) (hz:l.length<=sizeLine) (q:Q (aA aO d (.dict (aZ K f (bH k v l)))))
theorem Vc(hK:iE K){o i:Expr}{pos:Pos}{Q:au->ah->Prop}(hi: ∀a b c d:Value,(match i with | .Slice _ _ none _=>[a,b,c] |_=>[b,c,a]:ae Value)=[b,c,a])
  (h:aQ n af o m σ λa ap=>aQ n af i m ap (Wl K f b (Q m) a)):fw n af (.Subscript o i pos) b m σ Q:=by
 refine Gm hi (h.mono λa ap h=>h.mono λx aO h=>?_)
 obtain⟨d,l,k,v,e1,e2,e3,hd,hn,hz,q⟩:=h
 subst e2 e3
 refine⟨d,_,e1,hd,ma hK hn k,by rw[kD];exact hz,?_⟩
 rw[yg hK.inj];exact q
end
variable{n:Nat}{af:Env}{m:au}{h:HA}{D:HD}{σ aw:ah}{Q:AV->ah->Prop}{M K:Nat}{ts:ae aF}
structure FI(D:HD)(σ:ah)(dd:Addr)(p:bP)(i:Nat)(m:au)(aw:ah):Prop where
 k:dg σ aw
 f: ∃T:ae (cM×Bool),aw dd=some (.dict (aZ ig (λb=> .raw (.bool b)) T))/\(T.map (·.1)).Nodup/\(∀q∈T,mX D p q.1)/\T.length<=i
 m1:m (S "substs")=some (.raw (.ref dd))
theorem Sn{κ β:Type}(K:κ->AV)(f:β->AV)(l:ae (κ×β)):(aZ K f l).map (·.1)=(l.map (·.1)).map K:=by
 unfold aZ;rw[cQ,cQ];rfl
theorem w_in{wx wd:Addr}(T:HS h D σ)(O:bU M K D ts)(hn:D.nodes.length<=26)(oi:σ wd=some (.attrs [(S "heap",h.self)])){p:bP}{c:Nat}(hp:p.dep<10)(hl:p.c9.length<=20)(hb:bd p<=20000)(hc:c<D.par.length)
  (q: ∀F:ae cM,(∀θ∈F,mX D p θ)->F.length<=bd p->Q (.lst (F.map ig)) σ):aT 46 (.ref 499) [.obj wx 507 wd,am c,p.av] σ Q:=by
 have bz:bd p<=sizeLine:=Nat.le_trans hb (by rw[eZ];decide)
 refine mi ?_
 refine mG (S "self") (S "c") (S "pattern") ?_
 intro Lo ev mv
 refine cg (uX λdd pR=>aN ?_)
 have EB:aA σ dd (.dict []) dd=some (.dict (aZ ig (λb:Bool=> .raw (.bool b)) [])):=bB _ _ _
 have k0:dg σ (aA σ dd (.dict [])):=iR pR
 revert EB k0
 refine dP (aA σ dd _) λfU=>?_
 intro EB k0
 have T0:HS h D fU:=T.keep λc ω o e=>k0 c o e
 have wY:=k0 _ _ oi
 refine qr (λω ω=>rfl) (w_seq ?_)
 refine bG 492 ?_
 show ww
 refine bI wY ?_
 refine l_cons (nQ (uX λde ZA=>⟨_,_,.dict (bB _ _ _),?_⟩))
 rw[B6 ZA]
 refine l_cons ?_
 refine bG 393 ?_
 refine aS wY ?_
 refine bI T0.at_ ?_
 show ww
 refine(oN T0 (O.hz (Nat.le_trans hn (by decide))) hc ?_).less (by decide)
 show ww
 refine(w_ext O hn 10 p (θ:=[]) T0 wY hp (kF O.down hc) ⟨fA,λω h=>by cases h⟩ (by rw[Ow,Nat.zero_add];exact hl) hb λLs l1 l2=>?_).less (by decide)
 refine⟨_,.lst _,FI D σ dd p,⟨k0,⟨[],EB,fA,(λω h=>nomatch h),Nat.le_refl _⟩,rfl⟩,?_,?_⟩
 .intro i a m1 aw hi I Qv
  rw[cP] at hi
  obtain⟨θ,eB,rfl⟩:=dA.mp hi
  have E:=l1 θ (cO eB)
  have il:i<bd p:=Nat.lt_of_lt_of_le (cV.mp eB).1 l2
  have tl:θ.length<=20:=Nat.le_trans E.len (by simpa using hl)
  have tz:(aZ AV.str am θ).length<=sizeLine:=by rw[kD];exact t2 (Nat.lt_of_le_of_lt tl (by decide))
  obtain⟨kk,⟨B,f1,f2,f3,f4⟩,jd⟩:=I
  refine aN ?_
  intro mv
  refine cg (e_bool (Vc (f:=λb:Bool=> .raw (.bool b)) k_sub (λω ω ω ω=>rfl) ?_))
  show ww
  refine bq (.type "tuple") ?_
  show ww
  refine bq (.builtin "sorted") ?_
  refine l_cons (dF (λω=>rfl) ?_)
  show ww
  refine⟨_,S9 (.ca _),dI,?_⟩
  show ww
  refine Tu ?_
  show ww
  have ep:iW (aZ AV.str am θ)=θ.map iq:=by unfold iW aZ;rw[cQ];rfl
  refine Bu (r4 (λL=>L=iW (aZ AV.str am θ)) λL e=>⟨λω=>?_,?_⟩) (Pl tz) (λL e=>?_) λL out e ho=>?_
  .rw[e,ep]
   exact⟨.Dm λa ha=>by obtain⟨p,_,rfl⟩:=aU.mp ha;exact⟨_,_,rfl⟩,λa ha=>by obtain⟨p,_,rfl⟩:=aU.mp ha;exact(HH p).up (by decide),λa ha b hb=>by
    obtain⟨p,_,rfl⟩:=aU.mp ha
    obtain⟨p',_,rfl⟩:=aU.mp hb
    exact HI p p'⟩
  .rw[e,ep,ar];exact t2 (Nat.lt_of_le_of_lt tl (by decide))
  .rw[e,ep,ar];exact t2 (Nat.lt_of_le_of_lt tl (by decide))
  subst e
  have fM:=ho.2.2 (by rw[ep,ar];exact Nat.lt_of_le_of_lt tl (by decide))
  rw[ep] at fM
  obtain⟨dj,rfl,cZ⟩:=PZ fM
  show ww
  refine oJ (.lst _) (by rw[ar,cZ.length_eq];exact t2 (Nat.lt_of_le_of_lt tl (by decide))) ⟨dd,B,dj,true,rfl,rfl,rfl,f1,f2,Nat.le_trans f4 (Nat.le_trans (Nat.le_of_lt il) bz),bE ?_⟩
  refine⟨λa o e=>aP (kk a o e) (bp e pR),⟨_,bB _ _ _,kE f2,λx hx=>?_,Nat.le_trans (uM _ _ _) (Nat.succ_le_succ f4)⟩,jd⟩
  rcases iT hx with rfl |hx
  .exact E.perm cZ
  .exact f3 x hx
 .intro m1 aw I
  obtain⟨kk,⟨B,f1,f2,f3,f4⟩,jd⟩:=I
  rw[ar] at f4
  have f5:=Nat.le_trans f4 l2
  refine bC ?_
  refine bq (.builtin "sorted") ?_
  show ww
  have ek:=Sn ig (λb:Bool=>AV.raw (.bool b)) B
  refine FX f1 (r4 (λL=>L=(aZ ig (λb:Bool=>AV.raw (.bool b)) B).map (·.1)) λL e=>⟨λh2=>?_,?_⟩) (by rw[kD];exact Nat.le_trans f5 bz) λout ho=>?_
  .rw[e,ek] at h2 ⊢
   rw[ar] at h2
   refine Va (Vb (D:=D) (p:=p) f2 h2 λθ eB=>?_)
   obtain⟨x,hx,rfl⟩:=aU.mp eB
   exact f3 x hx
  .rw[e,ar,kD];exact Nat.le_trans f5 bz
  rw[ek] at ho
  obtain⟨F,rfl⟩:=Bz (K:=ig) λa ha=>by
   obtain⟨s,_,e⟩:=aU.mp (ho.1 a ha);exact⟨s,e.symm⟩
  refine⟨σ,λa o e=>(iY _ (bp e pR)).trans (kk a o e),q F (λθ eB=>?_) ?_⟩
  .obtain⟨x,hx,rfl⟩:=aU.mp ((CZ k_sub).mp (ho.1 _ (aU.mpr ⟨θ,eB,rfl⟩)))
   exact f3 x hx
  .have:=ho.2.1
   rw[ar,ar,ar] at this
   rw[this];exact f5
theorem w_found{wx wd:Addr}(T:HS h D σ)(O:bU M K D ts)(hn:D.nodes.length<=26)(oi:σ wd=some (.attrs [(S "heap",h.self)])){p:bP}(hp:p.dep<10)(hl:p.c9.length<=20)(hb:bd p<=20000)
  (q: ∀F:ae (Nat×cM),(∀f∈F,mX D p f.2)->F.length<=600000->Q (.lst (F.map lN)) σ):aT 49 (.ref 504) [.obj wx 507 wd,p.av] σ Q:=by
 have Z:=O.hz (Nat.le_trans hn (by decide))
 have rl:(dJ D.par).length<=26:=by
  unfold dJ
  refine Nat.le_trans (Nv _ _) ?_
  rw[m_,O.pt];exact hn
 have bz: ∀{k j:Nat},k<=26->j<=k*bd p->j<=600000:=λhk hj=>Nat.le_trans hj (Nat.le_trans (Nat.mul_le_mul hk hb) (by decide))
 have sz: ∀{j:Nat},j<=600000->j<sizeLine:=λh=>Nat.lt_of_le_of_lt h (by rw[eZ];decide)
 refine eL (S "self") (S "pattern") ?_
 intro Lo ev mv
 refine bC (Ty [(S "self",Lo+1),(S "pattern",Lo+2)] (w_seq ?_) wv (λω=>rfl) λω ω=>rfl)
 refine bG 435 ?_
 refine aS oi ?_
 refine bI T.at_ ?_
 show ww
 refine(A3 T Z ⟨_,.lst _,λi acc σ'=>σ'=σ/\ ∃F:ae (Nat×cM),acc=F.map lN/\(∀f∈F,mX D p f.2)/\F.length<=i*bd p,⟨rfl,[],rfl,(λω h=>nomatch h),Nat.zero_le _⟩,?_,?_⟩).less (by decide)
 .intro C i a acc σ' hi I ce cm Jv
  obtain⟨e1,F,e2,hF,lF⟩:=I
  subst e1 e2
  rw[cP] at hi
  obtain⟨c,hc,rfl⟩:=dA.mp hi
  have fR:c<D.par.length:=gL.mp (rV.mp (cO hc)).1
  have ic:i+1<=26:=Nat.le_trans (cV.mp hc).1 rl
  refine aN (w_seq ?_)
  refine bG 499 ?_
  show ww
  refine bI oi ?_
  show ww
  refine w_in T O hn oi hp hl hb fR λB hB lB=>⟨_,.lst _,λj acc fD=>fD=σ'/\acc=(F++(B.take j).map λθ=>(c,θ)).map lN,fN (λω=>none) (S "c") (am c),λx b e=>?_,⟨rfl,by simp⟩,?_,?_⟩
  .obtain⟨rfl,rfl⟩:=G0 e;exact⟨rfl,rfl⟩
  .intro j b acc fD hj I
   obtain⟨e1,e2⟩:=I
   subst e1 e2
   rw[cP] at hj
   obtain⟨θ,eB,rfl⟩:=dA.mp hj
   refine aN ⟨λx b e=>?_,iV (bS rfl (e_tuple ?_))⟩
   .obtain⟨rfl,rfl⟩:=G0 e;exact⟨rfl,rfl⟩
   show ww
   refine⟨t2 (n:=2) (by decide),sz (bz ic ?_),rfl,?_⟩
   .rw[ar,bQ,ar,jA,Nat.succ_mul]
    exact Nat.add_le_add lF (Nat.le_trans (Nat.min_le_right _ _) lB)
   .rw[fh,eB,bX (l₂:=(some θ).toList),<- Ay,bX (l₂:=r9 _ (some θ).toList)];rfl
  .intro acc fD I
   obtain⟨e1,e2⟩:=I
   subst e1 e2
   rw[ar,g8]
   refine⟨rfl,_,rfl,λf hf=>?_,?_⟩
   .rcases cy.mp hf with hf |hf
    .exact hF f hf
    .obtain⟨θ,eB,rfl⟩:=aU.mp hf;exact hB θ eB
   .rw[bQ,ar,Nat.succ_mul];exact Nat.add_le_add lF lB
 .intro acc σ' I
  obtain⟨e1,F,e2,hF,lF⟩:=I
  subst e1 e2
  rw[ar] at lF
  exact q F hF (bz rl lF)
end
noncomputable abbrev RT:=ae (Nat×aF)
def rr(cs:cH)(R:RT)(c k:Nat):Prop:= ∃t,aX c R=some t/\bN cs t<=k
noncomputable abbrev ei(R:RT)(s:Nd):aF:=(s.map λa=>(aX a R).getD t0).tm
structure gA(M:Nat)(D:HD)(cs:cH)(ts:ae aF)(R:RT):Prop where
 nd:(R.map (·.1)).Nodup
 top: ∀p∈R,p.1<D.par.length/\D.par.getD p.1 p.1=p.1
 val: ∀p∈R,ej M (ts.getD p.1 t0) p.2
 dv: ∀p∈R,Dv cs (rr cs R) [] p.1 p.2
 sm: ∀p∈R,bN cs p.2+3<=3*2^R.length
theorem gA.nil{M:Nat}{D:HD}{cs:cH}{ts:ae aF}:gA M D cs ts []:=⟨fA,(λω h=>nomatch h),(λω h=>nomatch h),(λω h=>nomatch h),(λω h=>nomatch h)⟩
theorem nH(f:Nat->aF)(s:Nd):((s.map f).tm).kids=s.kids.map f:=by cases s<;>rfl
theorem yZ(f:Nat->aF)(s:Nd):((s.map f).tm).op Lf.s=s.op:=by cases s<;>rfl
noncomputable def vH(cs:cH)(R:RT)(c:Nat):Nat:=match aX c R with
 |none=>KO+1
 |some t=>wX cs t
noncomputable def nI(cs:cH)(D:HD)(R:RT):Nat:=((dJ D.par).map (vH cs R)).sum
theorem So{l:ae Nat}{f g:Nat->Nat}{c:Nat}(hc:c∈l)(h: ∀x,f x<=g x)(h1:f c<g c):(l.map f).sum<(l.map g).sum:=by
 induction l with
 |nil=>cases hc
 |cons a r ih=>
  rw[eQ,eQ,p0,p0]
  have le:(r.map f).sum<=(r.map g).sum:=by
   clear ih hc
   induction r with
   |nil=>exact Nat.le_refl _
   |cons b r ih=>rw[eQ,eQ,p0,p0];exact Nat.add_le_add (h b) ih
  rcases aY.mp hc with e |hc
  .rw[<- e];exact Nat.add_lt_add_of_lt_of_le h1 le
  .exact Nat.add_lt_add_of_le_of_lt (h a) (ih hc)
section
variable{M K:Nat}{D:HD}{ts:ae aF}{cs:cH}{R:RT}
theorem gA.len(k:gA M D cs ts R):R.length<=D.par.length:=by
 have:=nt D.par.length k.nd λx hx=>by
  obtain⟨p,hp,rfl⟩:=aU.mp hx;exact(k.top p hp).1
 rwa [ar] at this
theorem gA.dep(k:gA M D cs ts R){c:Nat}{t:aF}(h:aX c R=some t):t.dep<D.par.length:=by
 have:=(k.dv _ (eG h)).dep (N:=D.par.length) (λc k' ⟨t,h1,_⟩=>(k.top _ (eG h1)).1) fA λω h=>by cases h
 exact this
theorem gA.T_(k:gA M D cs ts R)(hn:D.par.length<=20){c:Nat}{t:aF}(h:aX c R=some t):bN cs t<=3200000:=by
 have h1:=k.sm _ (eG h)
 have h2:2^R.length<=2^20:=Nat.pow_le_pow_right (by decide) (Nat.le_trans k.len hn)
 have h3:3*2^R.length<=3*2^20:=Nat.mul_le_mul_left 3 h2
 exact Nat.le_trans (Nat.le_trans (Nat.le_add_right _ 3) (Nat.le_trans h1 h3)) (by decide)
theorem gA.set(k:gA M D cs ts R)(hc:o7 cs)(O:bU M K D ts)(hn:D.par.length<=20){c:Nat}{t:Nd}(hj:D.nodes[j]? =some t)(hr:aE D.par j=c)(hk: ∀a∈(t.map (aE D.par)).kids,∃u,aX a R=some u)
  (bj: ∀u,aX c R=some u->cN (rk cs (ei R (t.map (aE D.par)))) (rk cs u)=true):
  gA M D cs ts (bH c (ei R (t.map (aE D.par))) R)/\nI cs D (bH c (ei R (t.map (aE D.par))) R)<nI cs D R:=by
 have jl:j<D.par.length:=by rw[O.pt];exact(cV.mp hj).1
 have tk:=(O.tree j t hj).1
 have ZB: ∀a∈t.kids,a<D.par.length:=λa ha=>Nat.lt_trans (tk a ha) jl
 have cr:c<D.par.length/\D.par.getD c c=c:=hr▸⟨kF O.down jl,(nF O.down j).1⟩
 revert hk bj
 refine gn (t.map (aE D.par)) λs es=>?_
 intro hk bj
 have hv:ej M (ts.getD c t0) (ei R s):=by
  have h1:=O.sound j jl
  rw[hr] at h1
  have h2:ts.getD j t0=f9 ts t:=by
   rw[ip,(O.tree j t hj).2];rfl
  rw[h2] at h1
  refine h1.trans ((BW O ZB).symm.trans ?_)
  rw[es]
  refine ej.sh s λa ha=>?_
  obtain⟨u,hu⟩:=hk a ha
  have:=k.val _ (eG hu)
  rw[hu];exact this
 have kd: ∀v∈(ei R s).kids,∃a u,a∈s.kids/\aX a R=some u/\v=u:=λv hv=>by
  rw[nH] at hv
  obtain⟨a,ha,rfl⟩:=aU.mp hv
  obtain⟨u,hu⟩:=hk a ha
  exact⟨a,u,ha,hu,by rw[hu];rfl⟩
 revert bj hv kd
 refine gn (ei R s) λu eu=>?_
 intro bj hv kd
 have up: ∀x k',rr cs R x k'->rr cs (bH c u R) x k':=λx k' ⟨t,h1,h2⟩=>by
  by_cases e:x=c
  .subst e
   exact⟨u,by rw[l9,if_pos rfl],Nat.le_trans (Ik (bj t h1)) h2⟩
  .exact⟨t,by rw[l9,aK e];exact h1,h2⟩
 have me:rr cs (bH c u R) c (bN cs u):=⟨u,by rw[l9,if_pos rfl],Nat.le_refl _⟩
 have du:Dv cs (rr cs (bH c u R)) [] c u:= .mk' [] c u (λh=>by cases h) me λv hv=>by
  obtain⟨a,v',ha,h1,rfl⟩:=kd v hv
  refine⟨a,((k.dv _ (eG h1)).mono up).weak hc (e:=c) λk' bJ=>?_⟩
  obtain⟨w,h2,h3⟩:=bJ
  rw[l9,if_pos rfl] at h2;cases h2
  exact Nat.lt_of_lt_of_le (Hv hc hv) h3
 have su:bN cs u+3<=3*2^(bH c u R).length:=by
  cases hg:aX c R with
  |some w=>
   have l1:(bH c u R).length=R.length:=by
    have hm:c∈R.map (·.1):=Classical.byContradiction λq=>by rw[lm.mpr q] at hg;cases hg
    have:=congrArg xH (r8 (v:=u) hm)
    rwa [ar,ar] at this
   rw[l1]
   exact Nat.le_trans (Nat.add_le_add_right (Ik (bj w hg)) 3) (k.sm _ (eG hg))
  |none=>
   have l1:(bH c u R).length=R.length+1:=by rw[kA hg,bQ];rfl
   have hS:(u.kids.map (bN cs)).sum+6<=2*(3*2^R.length):=by
    have each: ∀v∈u.kids,bN cs v+3<=3*2^R.length:=λv hv=>by
     obtain⟨a,v',ha,h1,rfl⟩:=kd v hv
     exact k.sm _ (eG h1)
    have p1:1<=2^R.length:=Nat.one_le_two_pow
    have ul:u.kids.length<=2:=by rw[<- eu,nH,ar];exact s.ji
    rw[Nat.two_mul]
    exact Xw ul (Nat.le_mul_of_pos_right 3 p1) each
   rw[l1,sx]
   have:=hc.hi (u.op Lf.s)
   have e2:2^(R.length+1)=2*2^R.length:=by rw[Nat.pow_succ,Nat.mul_comm]
   rw[e2];lia
 have mono:2^R.length<=2^(bH c u R).length:=by
  refine Nat.pow_le_pow_right (by decide) ?_
  by_cases q:c∈R.map (·.1)
  .have:=congrArg xH (r8 (v:=u) q)
   rw[ar,ar] at this
   exact Nat.le_of_eq this.symm
  .rw[kA (lm.mpr q),bQ];exact Nat.le_add_right _ _
 have R':gA M D cs ts (bH c u R):=by
  refine⟨kE k.nd,λp hp=>?_,λp hp=>?_,λp hp=>?_,λp hp=>?_⟩
  .rcases iT hp with rfl |hp
   .exact cr
   .exact k.top p hp
  .rcases iT hp with rfl |hp
   .exact hv
   .exact k.val p hp
  .rcases iT hp with rfl |hp
   .exact du
   .exact(k.dv p hp).mono up
  .rcases iT hp with rfl |hp
   .exact su
   .exact Nat.le_trans (k.sm p hp) (Nat.mul_le_mul_left 3 mono)
 have L:vH cs (bH c u R) c<vH cs R c:=by
  unfold vH
  rw[l9,if_pos rfl]
  cases hg:aX c R with
  |none=>exact Nat.lt_succ_of_le (U4 cs u)
  |some w=>exact U0 (Nat.le_trans (Nat.le_of_lt (R'.dep (by rw[l9,if_pos rfl]:aX c (bH c u R)=some u))) (Nat.le_trans hn (by decide))) (bj w hg)
 refine⟨R',So (rV.mpr ⟨gL.mpr cr.1,decide_eq_true cr.2⟩) (λx=>?_) L⟩
 by_cases e:x=c
 .subst e;exact Nat.le_of_lt L
 .unfold vH;rw[l9,aK e];exact Nat.le_refl _
end
def EC(D:HD)(cs:cH)(R:RT):Prop:= ∀j t,D.nodes[j]? =some t->(∀a∈t.kids,∃u,aX (aE D.par a) R=some u)-> ∃u,aX (aE D.par j) R=some u/\cN (rk cs (ei R (t.map (aE D.par)))) (rk cs u)=false
theorem Ir{M K:Nat}{D:HD}{ts:ae aF}{cs:cH}{R:RT}(O:bU M K D ts)(F:EC D cs R): ∀(b j:Nat),j<b->j<D.par.length-> ∃u,aX (aE D.par j) R=some u/\bN cs u<=bN cs (ts.getD j t0):=by
 intro b
 induction b with
 |zero=>intro j h;exact ax h (Nat.not_lt_zero _)
 |succ b ih=>
  intro j hb hj
  have qW:j<D.nodes.length:=O.pt▸hj
  have ht:=cL qW
  generalize D.nodes[j]=t at ht
  obtain⟨tk,tt⟩:=O.tree j t ht
  have K: ∀a∈t.kids,∃u,aX (aE D.par a) R=some u/\bN cs u<=bN cs (ts.getD a t0):=λa ha=>ih a (Nat.lt_of_lt_of_le (tk a ha) (Nat.le_of_lt_succ hb)) (Nat.lt_trans (tk a ha) hj)
  obtain⟨u,hu,hl⟩:=F j t ht λa ha=>(K a ha).imp λu h=>h.1
  refine⟨u,hu,Nat.le_trans (Sd hl) ?_⟩
  rw[ip,tt]
  show _<=bN cs (f9 ts t)
  rw[sx,sx cs (f9 ts t),yZ,yZ,nH,nH,Sh.uL,Sh.I0]
  refine Nat.add_le_add_left ?_ _
  clear tt hl ht
  generalize t.kids=l at K
  clear tk
  induction l with
  |nil=>exact Nat.le_refl _
  |cons a r DY=>
   simp only[eQ,p0]
   obtain⟨v,hv,hp⟩:=K a (.head _)
   rw[hv]
   exact Nat.add_le_add hp (DY λx hx=>K x (.tail _ hx))
section
theorem It{f:α->aB β}{l:ae α}{a:α}(h:l[i]? =some a):(l.take (i+1)).filterMap f=(l.take i).filterMap f++(f a).toList:=by
 rw[fh,h,ae.filterMap_append]
 cases q:f a<;>simp[q]
theorem Ji{α β:Type}{f:α->aB β}{z:β}: ∀{l:ae α},(∀a∈l,∃u,f a=some u)->l.filterMap f=l.map λa=>(f a).getD z
 |[],_=>rfl
 |a::r,h=>by
  obtain⟨u,hu⟩:=h a (.head _)
  rw[rP,hu,eQ,Ji (z:=z) λb hb=>h b (.tail _ hb),hu];rfl
theorem Iu{α β:Type}{f:α->aB β}: ∀{l:ae α},¬(∀a∈l,∃u,f a=some u)->(l.filterMap f).length<l.length
 |[],h=>ax (λω h=>nomatch h) h
 |a::r,h=>by
  cases q:f a with
  |none=>rw[rP,q];exact Nat.lt_succ_of_le (E_ _ _)
  |some u=>
   rw[rP,q]
   exact Nat.succ_lt_succ (Iu λh'=>h λb hb=>(aY.mp hb).elim (λe=>⟨u,e▸q⟩) (h' b))
theorem x9: ∀l:ae Nat,jw (l.map λk:Nat=>(k:aj))=(l.sum:Nat)
 |[]=>rfl
 |a::r=>by
  rw[eQ,p0]
  show(a:aj)+jw _=_
  rw[x9 r,kq]
set_option genInjectivity false in
structure CA where
 x:Addr
 d:Addr
 r:Addr
noncomputable def CA.self(c:CA):AV:= .obj c.x 257 c.d
noncomputable abbrev wc(cs:cH):AV:= .ca (aZ .str am cs)
noncomputable def CA.at_(c:CA)(h:HA)(cs:cH):AO:= .attrs [(S "heap",h.self),(S "costs",wc cs),(S "ranks",.raw (.ref c.r))]
noncomputable def mK(cs:cH)(R:RT):AO:= .dict (aZ am (rk cs) R)
variable{n:Nat}{af:Env}{m:au}{h:HA}{D:HD}{σ aw:ah}{Q:AV->ah->Prop}{M K:Nat}{ts:ae aF}{c:CA}{cs:cH}{R:RT}
theorem yE(cs:cH)(t:aF):rk cs t= .tup [am (bN cs t),sW Lf.s t,t.av]:=rfl
theorem QP(hc:o7 cs)(hR:(R.map (·.1)).Nodup)(hl: ∀a u,aX a R=some u->u.dep<20/\bN cs u<=3200000)(at_:σ c.d=some (c.at_ h cs))(hr:σ c.r=some (mK cs R))(s:Nd)
  (q0:(¬ ∀a∈s.kids,∃u,aX a R=some u)->Q (.raw .none) σ) (q1:(∀a∈s.kids,∃u,aX a R=some u)->Q (rk cs (ei R s)) σ):aT 99 (.ref 233) [c.self,dG s] σ Q:=by
 refine eL (S "self") (S "node") ?_
 intro Lo ev mv
 have sl:(AV.str s.op::s.kids.map am).length<1000:=by rw[gh,ar];exact Nat.lt_of_le_of_lt (Nat.succ_le_succ s.ji) (by decide)
 refine oO [(S "self",Lo+1)] (w_seq (hG (lo:=some 1) (hi:=none) (.int 1 _ _) .none ?_))
 show ww
 refine jD (Nat.succ_le_succ (Nat.zero_le _)) (t2 sl) ?_
 refine⟨_,.tup _,λi acc σ'=>σ'=σ/\acc=((s.kids.take i).filterMap λa=>aX a R).map (rk cs),⟨rfl,rfl⟩,?_,?_⟩
 .intro C i b acc σ' hi I ce cm Jv
  obtain⟨e1,e2⟩:=I
  subst e1 e2
  have hi:(s.kids.map am)[i]? =some b:=hi
  rw[cP] at hi
  obtain⟨a,ha,rfl⟩:=dA.mp hi
  refine aN (nD (bu rfl ?_))
  show ww
  refine aS at_ ?_
  refine Hk fq rfl (.ref hr) hR ⟨_,rfl,?_⟩
  cases hg:aX a R with
  |none=>
   refine bL rfl ⟨rfl,?_⟩
   rw[It ha,hg,aB.toList_none,lT]
  |some u=>
   refine bS rfl (bh ?_)
   refine aS at_ ?_
   show ww
   refine ge fq rfl (.ref hr) (λω ω=>rfl) hR hg ⟨?_,rfl,?_⟩
   .rw[ar]
    exact t3 (Nat.lt_of_le_of_lt (E_ _ _) (Nat.lt_of_le_of_lt (ae.length_take_le' _ _) (Nat.lt_of_le_of_lt s.ji (by decide))))
   .rw[It ha,hg,bX];rfl
 intro acc σ' I
 obtain⟨e1,e2⟩:=I
 subst e1 e2
 rw[show((AV.str s.op::s.kids.map am).drop 1).length=s.kids.length from ar _,g8]
 refine gn ((s.kids.filterMap λa=>aX a R)) λus ED=>?_
 have ul:us.length<=2:=by rw[<- ED];exact Nat.le_trans (E_ _ _) s.ji
 have uz:us.length<1000:=Nat.lt_of_le_of_lt ul (by decide)
 refine gv (bu rfl ?_)
 refine bq (.builtin "len") ?_
 show ww
 refine dL (.inr (.lst _)) (t1 (by rw[ar];exact uz)) (bR ?_)
 refine bq (.builtin "len") ?_
 show ww
 refine dL (.inl (.tup _)) (t1 sl) ?_
 show ww
 refine mq (pf ⟨_,rfl,?_⟩)
 rw[ar,gh,ar,x8]
 by_cases pe: ∀a∈s.kids,∃u,aX a R=some u
 .have hm:us=s.kids.map λa=>(aX a R).getD t0:=by rw[<- ED];exact Ji pe
  have hlen:us.length=s.kids.length:=by rw[hm,ar]
  refine bL (Cm (Nat.le_of_eq hlen.symm)) (bE ?_)
  refine cg (bR (dF (λω=>rfl) ?_))
  refine aS at_ ?_
  refine⟨_,oY (.ca _),dI,?_⟩
  refine l_cons (bh ?_)
  show ww
  refine dC (λω ω=>rfl) (c_ _) (t1 sl) rfl ?_
  show ww
  refine on ef rfl (.ca _) hc.nd ?_
  have eg:((aX s.op cs).map am).getD (.int 1)=am (gb cs s.op):=by unfold gb;cases aX s.op cs<;>rfl
  rw[eg]
  refine bq (.builtin "sum") ?_
  refine l_cons (o6 (f:=rk cs) (g:=λu=>am (bN cs u)) (l:=us) [] (t2 uz) (w_seq ?_))
  show ww
  refine⟨_,.lst _,rfl,λC u hu R hR=>aN ⟨rfl,bh ?_⟩,?_⟩
  .show ww
   rw[yE]
   exact dC (λω ω=>rfl) (c_ _) (t1 (n:=3) (by decide)) rfl ⟨rfl,hR⟩
  show ww
  have e1:(us.map λu=>am (bN cs u))=((us.map (bN cs)).map λk:Nat=>(k:aj)).map .int:=by rw[cQ,cQ];rfl
  rw[e1]
  refine vB (by rw[ar,ar];exact t2 uz) (gp ?_)
  have e3:us.map (bN cs)=(ei R s).kids.map (bN cs):=by rw[hm,nH]
  have e2:((gb cs s.op:Nat):aj)+jw ((us.map (bN cs)).map λk:Nat=>(k:aj))=(bN cs (ei R s):Nat):=by
   rw[x9,sx,yZ,e3,kq]
  rw[e2]
  refine aN ?_
  intro mv
  refine bC ?_
  refine bY 214 ?_
  show ww
  refine bR (hG (lo:=none) (hi:=some 1) .none (.int 1 _ _) ?_)
  show ww
  refine Px (t3 (Nat.lt_of_le_of_lt (Nat.le_succ _) sl)) ?_
  refine bq (.type "tuple") ?_
  refine l_cons (o6 (f:=rk cs) (g:=aF.av) (l:=us) [] (t2 uz) (w_seq ?_))
  show ww
  refine⟨_,.lst _,rfl,λC u hu R hR=>aN ⟨rfl,bh ?_⟩,?_⟩
  .show ww
   rw[yE]
   exact dC (λω ω=>rfl) (by decide) (t1 (n:=3) (by decide)) rfl ⟨rfl,hR⟩
  show ww
  refine oJ (.lst _) (by rw[ar];exact t2 uz) (uy (by rw[ar,Nat.add_comm];exact t2 (Nat.lt_of_le_of_lt (Nat.succ_le_succ ul) (by decide))) ?_)
  show ww
  have e4:AV.tup ([.str s.op]++us.map aF.av)=(ei R s).av:=by
   rw[show(ei R s).av=_ from Tree.i6 _ _,yZ,nH,<- hm];rfl
  rw[e4]
  have hd:(ei R s).dep<30:=by
   have K: ∀v∈us,v.dep<20:=λv hv=>by
    rw[hm] at hv
    obtain⟨a,ha,rfl⟩:=aU.mp hv
    obtain⟨u,hu⟩:=pe a ha
    rw[hu];exact(hl a u hu).1
   have e5:(ei R s).kids=us:=by rw[nH,hm]
   generalize ei R s=t at e5
   cases t with
   |lf i=>exact(by decide:0<30)
   |ng a=>exact Nat.lt_of_lt_of_le (Nat.succ_lt_succ (K a (e5▸ .head _))) (by decide:21<=30)
   |ad a b=>exact Nat.lt_of_lt_of_le (Nat.succ_lt_succ (Nat.max_lt.mpr ⟨K a (e5▸ .head _),K b (e5▸ .tail _ (.head _))⟩)) (by decide:21<=30)
   |ml a b=>exact Nat.lt_of_lt_of_le (Nat.succ_lt_succ (Nat.max_lt.mpr ⟨K a (e5▸ .head _),K b (e5▸ .tail _ (.head _))⟩)) (by decide:21<=30)
  have hz:(ei R s).sz<=16000000:=by
   refine Nat.le_trans (sy hc _) ?_
   rw[sx,<- e3]
   have h1:=hc.hi ((ei R s).op Lf.s)
   have K: ∀v∈us,bN cs v<=3200000:=λv hv=>by
    rw[hm] at hv
    obtain⟨a,ha,rfl⟩:=aU.mp hv
    obtain⟨u,hu⟩:=pe a ha
    rw[hu];exact(hl a u hu).2
   exact Nat.le_trans (Nat.add_le_add h1 (Xv ul K)) (Nat.le_of_ble_eq_true rfl)
  exact UV 30 _ _ hd (by decide) hz (q1 pe)
 .have:us.length<s.kids.length:=by rw[<- ED];exact Iu pe
  refine bS (JV this) (bC ?_)
  show ww
  exact q0 pe
end
section
section
variable{n:Nat}{σ:ah}{Q:AV->ah->Prop}
theorem Sp(hk:k<=100)(d:aM k a)(d':aM k b)(hc:fK a b)(h:Q (.raw (.bool (cN a b))) σ):cD n σ (eU .Lt a b) Q:=by
 intro af m A X P s c hA T tq
 obtain⟨u,v,ru,rv,rfl⟩:=tq
 exact La (P:=P) T.inv.p k _ _ _ _ A d d' ru rv hc (hA.deep hk) _ _ _ _ (aC.now T (.raw _) h)
end
theorem Ua(t:aF):aM 2 (sW Lf.s t):= .tup λa ha=>by
 rcases aY.mp ha with rfl |ha
 .exact .int _ _
 .rcases aY.mp ha with rfl |ha
  .exact .tup λb hb=>by obtain⟨u,_,rfl⟩:=aU.mp hb;exact .str _ _
  .rw[aW.mp ha]
   exact .tup λb hb=>by obtain⟨u,_,rfl⟩:=aU.mp hb;exact .int _ _
theorem Jj(cs:cH){t:aF}(h:t.dep<40):aM 41 (rk cs t):= .tup λa ha=>by
 rcases aY.mp ha with rfl |ha
 .exact .int _ _
 .rcases aY.mp ha with rfl |ha
  .exact(Ua t).up (by decide)
  .rw[aW.mp ha];exact Tree.dat Lf.s t 40 h
theorem Sq{R:RT}{s:Nd}{b d:Nat}(hb:b+1<=d)(h: ∀a∈s.kids,((aX a R).getD t0).dep<b):(ei R s).dep<d:=by
 have K: ∀v∈(ei R s).kids,v.dep<b:=λv hv=>by
  rw[nH] at hv
  obtain⟨a,ha,rfl⟩:=aU.mp hv
  exact h a ha
 generalize ei R s=t at K
 cases t with
 |lf i=>exact Nat.lt_of_lt_of_le (Nat.succ_pos b) hb
 |ng a=>exact Nat.lt_of_lt_of_le (Nat.succ_lt_succ (K a (.head _))) hb
 |ad a b'=>exact Nat.lt_of_lt_of_le (Nat.succ_lt_succ (Nat.max_lt.mpr ⟨K a (.head _),K b' (.tail _ (.head _))⟩)) hb
 |ml a b'=>exact Nat.lt_of_lt_of_le (Nat.succ_lt_succ (Nat.max_lt.mpr ⟨K a (.head _),K b' (.tail _ (.head _))⟩)) hb
def J9(cs:cH)(R:RT)(c:Nat)(s:Nd):Prop:=(∀a∈s.kids,∃u,aX a R=some u)-> ∃u,aX c R=some u/\cN (rk cs (ei R s)) (rk cs u)=false
structure HB(M:Nat)(D:HD)(cs:cH)(ts:ae aF)(R0:RT)(c:CA)(h:HA)(σ:ah)(done:Nat->Nd->Prop)(m:au)(aw:ah)(R:RT)(b:Bool):Prop where
 ok:gA M D cs ts R
 wr:Mk c.r (mK cs R) σ aw
 yes:b=true->nI cs D R<nI cs D R0
 no:b=false->R=R0/\ ∀k s,done k s->J9 cs R k s
 m1:m (S "self")=some c.self
 m2:m (S "is_better")=some (.raw (.bool b))
def EE(M:Nat)(D:HD)(cs:cH)(ts:ae aF)(R0:RT)(c:CA)(h:HA)(σ:ah)(done:Nat->Nd->Prop)(m:au)(aw:ah):Prop:= ∃R b,HB M D cs ts R0 c h σ done m aw R b
structure je(c:CA)(h:HA)(D:HD)(cs:cH)(R:RT)(σ:ah):Prop where
 at_:σ c.d=some (c.at_ h cs)
 r:σ c.r=some (mK cs R)
 ne:c.d≠c.r
 bO: ¬ij h D c.r
variable{n:Nat}{af:Env}{m:au}{h:HA}{D:HD}{σ aw:ah}{Q:AV->ah->Prop}{M K:Nat}{ts:ae aF}{c:CA}{cs:cH}{R:RT}
theorem je.to(C:je c h D cs R σ){R':RT}(k:Mk c.r (mK cs R') σ aw):je c h D cs R' aw:=⟨k.keep _ _ C.at_ C.ne,k.at_,C.ne,C.bO⟩
theorem je.heap(C:je c h D cs R σ){R':RT}(k:Mk c.r (mK cs R') σ aw)(T:HS h D σ):HS h D aw:=T.keep λx hx o e=>k.keep _ _ e λq=>C.bO (q▸hx)
theorem Sr(T:HS h D σ)(O:bU M K D ts)(hn:D.nodes.length<=20)(hc:o7 cs)(C:je c h D cs R σ)(hR:gA M D cs ts R)
  (q: ∀R' b σ',gA M D cs ts R'->Mk c.r (mK cs R') σ σ'->(b=true->nI cs D R'<nI cs D R)->(b=false->R'=R/\EC D cs R)->Q (.raw (.bool b)) σ'):aT 102 (.ref 240) [c.self] σ Q:=by
 have Z:=O.hz (Nat.le_trans hn (by decide))
 have pn:D.par.length<=20:=O.pt▸hn
 refine fC (S "self") ?_
 intro Lo ev mv
 let P:ae Nat->Nat->Nd->Prop:=λL k s=> ∃j t,k∈L/\D.nodes[j]? =some t/\aE D.par j=k/\s=t.map (aE D.par)
 let P2:ae Nat->Nat->ae Nd->Nat->Nd->Prop:=λA x L k s=>P A k s\/(k=x/\s∈L)
 refine cg (e_bool (aN ?_))
 intro mv
 refine oU (λi m' σ'=>EE M D cs ts R c h σ (P ((dJ D.par).take i)) m' σ') (λω ω=>rfl) (w_seq ?_)
 refine bG 435 ?_
 refine aS C.at_ ?_
 refine bI T.at_ ?_
 show ww
 refine(A3 T Z ⟨_,.lst _,⟨R,false,hR,⟨C.r,λω ω e ω=>e⟩,(λe=>by cases e),λω=>⟨rfl,λk s ⟨j,t,hk,_⟩=>by rw[pZ] at hk;cases hk⟩,rfl,rfl⟩,?_,?_⟩).less (by decide)
 .intro i a m1 aw hi I Qv
  rw[cP] at hi
  obtain⟨x,hx,rfl⟩:=dA.mp hi
  obtain⟨R1,b1,J⟩:=I
  have w4:=rV.mp (cO hx)
  have zL:x<D.par.length:=gL.mp w4.1
  have ZC:D.par.getD x x=x:=k9 w4.2
  have rx:aE D.par x=x:=kt ZC
  have C1:=C.to J.wr
  have T1:=C.heap J.wr T
  have jm1:=J.m1
  refine aN ?_
  intro mv2
  refine qr (λω ω=>rfl) (w_seq ?_)
  refine bG 447 ?_
  refine aS C1.at_ ?_
  refine bI T1.at_ ?_
  show ww
  refine(Hz T1 O (Nat.le_trans hn (by decide)) zL λL hL=>?_).less (by decide)
  refine⟨_,.lst _,λi' m' σ'=>m' (S "c")=some (am x)/\EE M D cs ts R c h σ (P2 ((dJ D.par).take i) x (L.take i')) m' σ',⟨rfl,R1,b1,J.ok,J.wr,J.yes,λe=>⟨(J.no e).1,λk s hk=>(J.no e).2 k s (hk.resolve_right λq=>by rw[pZ] at q;cases q.2)⟩,J.m1,J.m2⟩,?_,?_⟩
  .intro i' a m2 a_ dT I Qv
   obtain⟨mc,R2,b2,J2⟩:=I
   rw[cP] at dT
   obtain⟨s,hs,rfl⟩:=dA.mp dT
   have C2:=C.to J2.wr
   have T2:=C.heap J2.wr T
   have EF:=J2.m1
   obtain⟨j,t,hj,hr,ht,es,tk⟩:=hL.mem s (cO hs)
   rw[rx] at hr
   have keep: ∀{m3:au},m3 (S "c")=some (am x)->m3 (S "self")=some c.self->m3 (S "is_better")=some (.raw (.bool b2))->(b2=false->J9 cs R2 x s)->(m3 (S "c")=some (am x)/\EE M D cs ts R c h σ (P2 ((dJ D.par).take i) x (L.take (i'+1))) m3 a_):=λe1 e2 e3 st=>by
    refine⟨e1,R2,b2,J2.ok,J2.wr,J2.yes,λe=>⟨(J2.no e).1,λk s' hk=>?_⟩,e2,e3⟩
    rcases hk with hk |⟨e4,hk⟩
    .exact(J2.no e).2 k s' (.inl hk)
    .rw[fh,hs] at hk
     rcases cy.mp hk with hk |hk
     .exact(J2.no e).2 k s' (.inr ⟨e4,hk⟩)
     .rw[e4,aW.mp (show s'∈[s] from hk)];exact st e
   refine aN ?_
   intro mv3
   refine cg ?_
   refine bG 233 ?_
   show ww
   refine bI C2.at_ ?_
   show ww
   refine(QP hc J2.ok.nd (λa u hu=>⟨Nat.lt_of_lt_of_le (J2.ok.dep hu) pn,J2.ok.T_ pn hu⟩) C2.at_ C2.r s (λEG=>?_) λDs=>?_).less (by decide)
   .refine aN ?_
    intro mv
    refine eM (iZ (kG (bu rfl ?_)))
    show ww
    refine rY ⟨_,rfl,bL rfl ⟨rfl,bE ?_⟩⟩
    exact keep mc EF J2.m2 λω hk=>ax hk EG
   .have ZD:(ei R2 s).dep<40:=Sq (b:=20) (by decide) λa ha=>by
     obtain⟨u,hu⟩:=Ds a ha
     rw[hu];exact Nat.lt_of_lt_of_le (J2.ok.dep hu) pn
    refine aN ?_
    intro mv
    refine gv (iZ (kG (bu rfl ?_)))
    show ww
    refine gn ((match aX x R2 with |none=>true |some u=>cN (rk cs (ei R2 s)) (rk cs u))) λbt k7=>?_
    refine rY ⟨_,rfl,bS rfl (kG (fv.mono (Q:=λb σ'=>σ'=a_/\b=bt) (iZ (h9 (bu rfl ?_))) λb σ' e=>?_))⟩
    .show ww
     refine aS C2.at_ ?_
     refine ui fq rfl (.ref C2.r) J2.ok.nd ⟨_,rfl,?_⟩
     cases hg:aX x R2 with
     |none=>rw[hg] at k7;exact bS rfl ⟨rfl,k7⟩
     |some u=>
      rw[hg] at k7
      refine bL rfl (h9 (bu rfl ?_))
      show ww
      refine bh ?_
      refine aS C2.at_ ?_
      show ww
      refine ge fq rfl (.ref C2.r) (λω ω=>rfl) J2.ok.nd hg (Sp (by decide) (Jj cs ZD) (Jj cs (Nat.lt_of_lt_of_le (J2.ok.dep hg) (Nat.le_trans pn (by decide)))) (Sf _ _ _ _) ⟨_,rfl,?_⟩)
      have k7:cN (rk cs (ei R2 s)) (rk cs u)=bt:=k7
      rw[k7]
      cases bt with
      |true=>exact bS rfl ⟨rfl,rfl⟩
      |false=>exact bL rfl (jJ ⟨rfl,rfl⟩)
    obtain⟨e1,e2⟩:=e
    subst e1 e2
    cases b with
    |false=>
     refine bL rfl (bL rfl (bE (bE ?_)))
     refine keep mc EF J2.m2 λω ω=>?_
     cases hg:aX x R2 with
     |none=>rw[hg] at k7;cases k7
     |some u=>rw[hg] at k7;exact⟨u,rfl,k7⟩
    |true=>
     refine bS rfl (jJ (bS rfl ?_))
     have bj: ∀u,aX x R2=some u->cN (rk cs (ei R2 s)) (rk cs u)=true:=λu hg=>by rw[hg] at k7;exact k7
     rw[es] at bj Ds
     obtain⟨R3,L3⟩:=J2.ok.set hc O pn ht hr Ds bj
     rw[<- es] at R3 L3
     refine cg ?_
     show ww
     refine o5 (f:=rk cs) fq (λω ω ω ω=>rfl) ?_
     refine aS C2.at_ ?_
     show ww
     refine⟨c.r,R2,x,ei R2 s,rfl,rfl,rfl,C2.r,J2.ok.nd,Nat.lt_of_le_of_lt J2.ok.len (Nat.lt_of_le_of_lt pn (by decide)),?_⟩
     have M3:Mk c.r (mK cs (bH x (ei R2 s) R2)) σ (aA σ' c.r (.dict (aZ am (rk cs) (bH x (ei R2 s) R2)))):=⟨bB _ _ _,λy o e ne=>aP (J2.wr.keep y o e ne) ne⟩
     refine cg (e_bool (aN (bE (bE ?_))))
     refine⟨mc,_,true,R3,M3,λω=>?_,(λe=>by cases e),EF,rfl⟩
     cases b2 with
     |true=>exact Nat.lt_trans L3 (J2.yes rfl)
     |false=>rw[(J2.no rfl).1] at L3 ⊢;exact L3
  .intro m2 a_ I
   obtain⟨mc,R2,b2,J2⟩:=I
   refine bE ⟨R2,b2,J2.ok,J2.wr,J2.yes,λe=>⟨(J2.no e).1,λk s hk=>?_⟩,J2.m1,J2.m2⟩
   obtain⟨j,t,hk,hj,hr,rfl⟩:=hk
   rw[fh,hx] at hk
   rcases cy.mp hk with hk |hk
   .exact(J2.no e).2 k _ (.inl ⟨j,t,hk,hj,hr,rfl⟩)
   .have ek:k=x:=aW.mp (show k∈[x] from hk)
    subst ek
    refine(J2.no e).2 k _ (.inr ⟨rfl,?_⟩)
    rw[ar,g8]
    exact hL.back j t (by rw[O.pt];exact(cV.mp hj).1) (by rw[hr,rx]) hj
 .intro m1 aw I
  obtain⟨R1,b1,J⟩:=I
  rw[ar,g8] at J
  have m2:=J.m2
  refine bC ?_
  show ww
  refine q R1 b1 aw J.ok J.wr J.yes λe=>?_
  obtain⟨e1,f⟩:=J.no e
  refine⟨e1,λj t hj hk=>?_⟩
  have jl:j<D.par.length:=by rw[O.pt];exact(cV.mp hj).1
  have:=f _ _ ⟨j,t,?_,hj,rfl,rfl⟩ λa ha=>?_
  .rw[e1] at this;exact this
  .exact rV.mpr ⟨gL.mpr (kF O.down jl),decide_eq_true (nF O.down j).1⟩
  .rw[Sh.uL] at ha
   obtain⟨a',ZE,rfl⟩:=aU.mp ha
   rw[e1];exact hk a' ZE
end
section
variable{n:Nat}{af:Env}{m:au}{h:HA}{D:HD}{σ aw:ah}{Q:AV->ah->Prop}{M K:Nat}{ts:ae aF}{c:CA}{cs:cH}{R:RT}
theorem Mk.trans{o':AO}{σ fD:ah}(a:Mk dx o σ σ')(b:Mk dx o' σ' fD):Mk dx o' σ fD:=⟨b.at_,λx y e ne=>b.keep x y (a.keep x y e ne) ne⟩
theorem Ub(T:HS h D σ)(O:bU M K D ts)(hn:D.nodes.length<=20)(hc:o7 cs)
  (q: ∀c R σ',je c h D cs R σ'->gA M D cs ts R->EC D cs R->dg σ σ'->Q c.self σ'):aT 110 (.ref 257) [h.self,wc cs] σ Q:=by
 refine nK (n:=105) (fI:=228) (by kernel_rfl) (by kernel_rfl) (by kernel_rfl) λx dx dn=>?_
 have dH:aA σ dx (.attrs []) dx=some (.attrs []):=bB _ _ _
 have k0:dg σ (aA σ dx (.attrs [])):=iR dn
 revert dH k0
 refine dP (aA σ dx (.attrs [])) λfU=>?_
 intro dH k0
 refine mG (S "self") (S "heap") (S "costs") ?_
 intro Lo ev mv
 refine dq ?_
 show ww
 refine⟨_,dH,rfl,λaw M1=>?_⟩
 refine dq ?_
 show ww
 refine⟨_,M1.at_,by kernel_rfl,λa_ M2=>?_⟩
 refine dq (yA M2.at_ rfl ?_)
 intro a cn n3 f3 M3 v3
 have K3:dg σ cn:=λy o e=>M3.keep _ _ (M2.keep _ _ (M1.keep _ _ (k0 y o e) (bp e dn)) (bp e dn)) (bp e dn)
 have T3:HS h D cn:=T.keep λy ω o e=>K3 y o e
 have fa:σ a=none:=by
  cases e:σ a with
  |none=>rfl
  |some o=>rw[M2.keep _ _ (M1.keep _ _ (k0 a o e) n3) n3] at f3;cases f3
 have C0:je ⟨x,dx,a⟩ h D cs [] cn:=⟨M3.at_,v3,n3.symm,λo=>T.held o fa⟩
 refine uK (λk m' σ'=>m' (S "self")=some (.obj x 257 dx)/\ ∃R,nI cs D R=k/\gA M D cs ts R/\Mk a (mK cs R) cn σ') (nI cs D []) ⟨rfl,[],rfl,.nil,v3,λω ω e ω=>e⟩ λk m' eO I=>?_
 intro Qv
 obtain⟨ms,R,ek,hR,M4⟩:=I
 have C4:=C0.to M4
 have T4:=C0.heap M4 T3
 refine mh (λω=>rfl) ?_
 refine bG 240 ?_
 show ww
 refine bI C4.at_ ?_
 show ww
 refine(Sr T4 O hn hc C4 hR λR' b eY Ms M5 hy EG=>?_).less (by decide)
 have EH:=M4.trans M5
 have C5:=C0.to EH
 cases b with
 |true=>exact⟨true,rfl,bS rfl (sC (Uo (bE ⟨nI cs D R',ek▸hy rfl,ms,R',rfl,Ms,EH⟩)))⟩
 |false=>
  obtain⟨e1,hF⟩:=EG rfl
  subst e1
  exact⟨false,rfl,bL rfl (bE ⟨rfl,q ⟨x,dx,a⟩ R' eY C5 Ms hF λy o e=>EH.keep _ _ (K3 y o e) (bp e fa)⟩)⟩
theorem Jk(T:HS h D σ)(O:bU M K D ts)(hn:D.nodes.length<=20)(C:je c h D cs R σ)(hR:gA M D cs ts R)(hk:k<D.par.length){u:aF}(hu:aX (aE D.par k) R=some u)
  (q:Q (am (bN cs u)) σ):aT 9 (.ref 247) [c.self,am k] σ Q:=by
 have Z:=O.hz (Nat.le_trans hn (by decide))
 refine eL (S "self") (S "c") ?_
 intro Lo ev mv
 refine bC (bh (bh ?_))
 refine aS C.at_ ?_
 refine bG 393 ?_
 refine aS C.at_ ?_
 refine bI T.at_ ?_
 show ww
 refine(oN T Z hk ?_).less (by decide)
 refine ge fq rfl (.ref C.r) (λω ω=>rfl) hR.nd hu ?_
 show ww
 rw[yE]
 exact dC (λω ω=>rfl) (c_ _) (t1 (n:=3) (by decide)) rfl q
theorem Vd(T:HS h D σ)(O:bU M K D ts)(hn:D.nodes.length<=20)(C:je c h D cs R σ)(hR:gA M D cs ts R)(hk:k<D.par.length){u:aF}(hu:aX (aE D.par k) R=some u)
  (q:Q u.av σ):aT 9 (.ref 254) [c.self,am k] σ Q:=by
 have Z:=O.hz (Nat.le_trans hn (by decide))
 refine eL (S "self") (S "c") ?_
 intro Lo ev mv
 refine bC (bh (bh ?_))
 refine aS C.at_ ?_
 refine bG 393 ?_
 refine aS C.at_ ?_
 refine bI T.at_ ?_
 show ww
 refine(oN T Z hk ?_).less (by decide)
 refine ge fq rfl (.ref C.r) (λω ω=>rfl) hR.nd hu ?_
 show ww
 rw[yE]
 exact dC (λω ω=>rfl) (by decide) (t1 (n:=3) (by decide)) rfl q
end
section
set_option genInjectivity false in
structure iL where
 x:Addr
 d:Addr
 hi:Addr
 wx:Addr
 wd:Addr
 px:Addr
 pd:Addr
noncomputable def iL.self(a:iL):AV:= .obj a.x 627 a.d
noncomputable abbrev nW(w:Str)(bx:Nat):ae (Str×AV):=[(S "order",.str w),(S "nodes",am 14),(S "rounds",am bx)]
noncomputable abbrev J_(w:Str)(bx:Nat):AV:= .ca (aZ .str id (nW w bx))
noncomputable abbrev J'(k:Nat):AV:= .lst (t_ k (.int 0))
noncomputable def iL.at_(a:iL)(h:HA)(rs:ae bV)(w:Str)(bx r:Nat):ae (Str×AV):=
 [(S "heap",h.self),(S "rules",.lst (rs.map bV.av)),(S "options",J_ w bx),(S "walker",.obj a.wx 507 a.wd),(S "placer",.obj a.px 572 a.pd),(S "history",.raw (.ref a.hi)),(S "rounds",am r),(S "rests",J' 3),(S "wakes",J' 3)]
noncomputable abbrev x_(h:HA):AO:= .attrs [(S "heap",h.self)]
structure pT(a:iL)(h:HA)(D:HD)(rs:ae bV)(w:Str)(bx r nh:Nat)(σ:ah):Prop where
 at_:σ a.d=some (.attrs (a.at_ h rs w bx r))
 hi:tP a.hi nh σ
 wk:σ a.wd=some (x_ h)
 pl:σ a.pd=some (x_ h)
 bO: ∀c,c=a.d\/c=a.hi\/c=a.wd\/c=a.pd-> ¬ij h D c
theorem B7(w:Str)(bx:Nat):aX (S "order") (nW w bx)=some (.str w):=by rw[dS,if_pos rfl]
theorem Uc(w:Str)(bx:Nat):aX (S "nodes") (nW w bx)=some (am 14):=by rw[dS,aK (show ¬S "order"=S "nodes" by decide),dS,if_pos rfl]
theorem Ud(w:Str)(bx:Nat):aX (S "rounds") (nW w bx)=some (am bx):=by rw[dS,aK (show ¬S "order"=S "rounds" by decide),dS,aK (show ¬S "nodes"=S "rounds" by decide),dS,if_pos rfl]
theorem sJ(w:Str)(bx:Nat):((nW w bx).map (·.1)).Nodup:=by
 show[S "order",S "nodes",S "rounds"].Nodup
 decide
theorem G1{α:Type}: ∀{l l':ae α},l.Nodup->(∀a∈l,a∈l')->l.length<=l'.length
 |[],_,_,_=>Nat.zero_le _
 |a::r,l',hn,h=>by
  have hn:=fF.mp hn
  have ha:=h a (.head _)
  have:=G1 (l':=l'.erase a) hn.2 λb hb=>by
   have ne:b≠a:=λe=>hn.1 (e▸hb)
   exact(NC ne).mpr (h b (.tail _ hb))
  rw[Ak ha] at this
  have pos:=Al ha
  rw[gh];exact Nat.add_le_of_le_sub pos this
theorem Jl(h: ∀a∈l,a=b)(hl:l.length=k):l=t_ k b:=ae.eq_replicate_iff.mpr ⟨hl,h⟩
variable{n:Nat}{af:Env}{m:au}{h:HA}{D:HD}{σ aw:ah}{Q:AV->ah->Prop}{M K:Nat}{ts:ae aF}
theorem Ve:RepV G.w.params G.gQ.heap.get? (.tup [.str (S "together"),.str (S "turns"),.str (S "rests")]) (.ref 512):= .tup (H.K _ _ (by with_unfolding_all rfl)) (.cons (.str _ _) (.cons (.str _ _) (.cons (.str _ _) .nil)))
theorem Ss(q: ∀x d σ',σ' d=some (x_ h)->σ d=none->dg σ σ'->Q (.obj x 507 d) σ'):aT 8 (.ref 507) [h.self] σ Q:=by
 refine nK (fI:=487) (by kernel_rfl) (by kernel_rfl) (by kernel_rfl) λx dx dn=>?_
 have dH:aA σ dx (.attrs []) dx=some (.attrs []):=bB _ _ _
 have k0:dg σ (aA σ dx (.attrs [])):=iR dn
 revert dH k0
 refine dP (aA σ dx (.attrs [])) λfU=>?_
 intro dH k0
 refine eL (S "self") (S "heap") ?_
 intro Lo ev mv
 refine dq ?_
 show ww
 refine⟨_,dH,rfl,λaw M1=>bE ⟨rfl,q x dx aw M1.at_ dn λy o e=>M1.keep _ _ (k0 y o e) (bp e dn)⟩⟩
theorem St(q: ∀x d σ',σ' d=some (x_ h)->σ d=none->dg σ σ'->Q (.obj x 572 d) σ'):aT 8 (.ref 572) [h.self] σ Q:=by
 refine nK (fI:=552) (by kernel_rfl) (by kernel_rfl) (by kernel_rfl) λx dx dn=>?_
 have dH:aA σ dx (.attrs []) dx=some (.attrs []):=bB _ _ _
 have k0:dg σ (aA σ dx (.attrs [])):=iR dn
 revert dH k0
 refine dP (aA σ dx (.attrs [])) λfU=>?_
 intro dH k0
 refine eL (S "self") (S "heap") ?_
 intro Lo ev mv
 refine dq ?_
 show ww
 refine⟨_,dH,rfl,λaw M1=>bE ⟨rfl,q x dx aw M1.at_ dn λy o e=>M1.keep _ _ (k0 y o e) (bp e dn)⟩⟩
theorem Su(T:HS h D σ){rs:ae bV}(h3:rs.length=3)(zp:(rs.map bV.name).Nodup){w:Str}(hw:w=S "together"\/w=S "turns"){bx:Nat}
  (q: ∀(a:iL) σ',pT a h D rs w bx 0 0 σ'->dg σ σ'->Q a.self σ'):aT 17 (.ref 627) [h.self,.lst (rs.map bV.av),J_ w bx] σ Q:=by
 refine nK (n:=12) (fI:=588) (by kernel_rfl) (by kernel_rfl) (by kernel_rfl) λx dx dn=>?_
 have dH:aA σ dx (.attrs []) dx=some (.attrs []):=bB _ _ _
 have k0:dg σ (aA σ dx (.attrs [])):=iR dn
 revert dH k0
 refine dP (aA σ dx (.attrs [])) λfU=>?_
 intro dH k0
 refine y_ (S "self") (S "heap") (S "rules") (S "options") ?_ (by with_unfolding_all rfl) (by kernel_rfl) λω ω ω ω=>rfl
 intro Lo ev mv
 refine eM (bu rfl (dF (λω=>rfl) ?_))
 show ww
 refine⟨_,oY (.ca _),dI,?_⟩
 show ww
 refine on (f:=id) ef rfl (.ca _) (sJ w bx) ?_
 rw[B7]
 refine uE (a:= .tup [.str (S "together"),.str (S "turns"),.str (S "rests")]) (v:= .ref 512) Ve ?_ (by kernel_rfl) rfl (by kernel_rfl)
 refine uh (BB [S "together",S "turns",S "rests"]) (.str _ _) ⟨_,rfl,?_,?_⟩
 .have:AV.str w∈[AV.str (S "together"),.str (S "turns"),.str (S "rests")]:=by rcases hw with rfl |rfl;exact .head _;exact .tail _ (.head _)
  show(!decide (AV.str w∈[AV.str (S "together"),.str (S "turns"),.str (S "rests")]))=false
  rw[decide_eq_true this];rfl
 refine oO [] (w_seq ?_)
 show ww
 refine⟨_,.lst _,qj (L:=rs) (f:=bV.av) (λR=> .str R.name) (t2 (by rw[h3];decide)) (λC R hR=>?_) ?_⟩
 .exact aN (lM ⟨rfl,rfl⟩)
 have en:(rs.map λR=>AV.str R.name)=(rs.map bV.name).map .str:=by rw[cQ];rfl
 rw[en]
 have nz:((rs.map bV.name).map AV.str).length=3:=by rw[ar,ar,h3]
 refine eM (bu rfl ?_)
 refine bq (.builtin "len") ?_
 refine l_cons ?_
 refine bq (.type "set") ?_
 show ww
 refine yT (Hx ef _) (by rw[nz];decide) λds L' tL hm hl=>?_
 have L3:L'.length=3:=by
  refine Nat.le_antisymm (nz▸hl) ?_
  have:=G1 (Fx AV.str (λa b fS q=>fS (by injection q)) zp:((rs.map bV.name).map AV.str).Nodup) λa ha=>(hm a).mpr ha
  rw[nz] at this;exact this
 have gX:aA fU ds (.set L') dx=some (.attrs []):=aP dH (bp dH tL)
 have k1:dg σ (aA fU ds (.set L')):=λy o e=>aP (k0 y o e) (bp (k0 y o e) tL)
 show ww
 refine Qw (bB _ _ _) (by rw[L3];decide) ?_
 revert gX k1
 refine dP (aA fU ds (.set L')) λaw=>?_
 intro gX k1
 refine bq (.builtin "len") ?_
 show ww
 refine dL (.inr (.lst _)) (by rw[nz];decide) (pf ⟨_,rfl,by rw[L3,nz];rfl,?_⟩)
 refine dq ?_
 show ww
 refine⟨_,gX,rfl,λa_ M2=>?_⟩
 refine dq ?_
 refine bq (.type "list") ?_
 show ww
 refine IR (.list (.lst _)) (by rw[ar,h3];exact t2 (n:=3) (by decide)) ⟨_,M2.at_,by kernel_rfl,λcn M3=>?_⟩
 refine dq ?_
 show ww
 refine⟨_,M3.at_,by kernel_rfl,λeO M4=>?_⟩
 refine dq ?_
 refine bY 507 ?_
 show ww
 refine(Ss λwx wd aal W1 W2 W3=>?_).less (by decide)
 refine⟨_,W3 _ _ M4.at_,by kernel_rfl,λeY M5=>?_⟩
 refine dq ?_
 refine bY 572 ?_
 show ww
 refine(St λpx pd aam P1 P2 P3=>?_).less (by decide)
 refine⟨_,P3 _ _ M5.at_,by kernel_rfl,λwQ M6=>?_⟩
 refine dq (mj M6.at_ rfl ?_)
 intro hi lR n7 f7 M7 v7
 refine dq ?_
 show ww
 refine⟨_,M7.at_,by kernel_rfl,λEI M8=>?_⟩
 refine dq ?_
 refine bR (gm ?_)
 show ww
 refine⟨t2 (n:=1) (by decide),?_⟩
 refine bq (.builtin "len") ?_
 refine l_cons ?_
 refine aS M8.at_ ?_
 show ww
 have rz:(rs.map bV.av).length=3:=by rw[ar,h3]
 refine dL (.inr (.lst _)) (by rw[rz];decide) ?_
 rw[rz]
 refine GT (k:=3) (by simp) (by decide) λz1 j8 ZF=>?_
 rw[Jl (b:= .int 0) (λa ha=>aW.mp (j8 a ha)) ZF]
 refine⟨_,M8.at_,by kernel_rfl,λZG M9=>?_⟩
 refine dq ?_
 refine bR (gm ?_)
 show ww
 refine⟨t2 (n:=1) (by decide),?_⟩
 refine bq (.builtin "len") ?_
 refine l_cons ?_
 refine aS M9.at_ ?_
 show ww
 refine dL (.inr (.lst _)) (by rw[rz];decide) ?_
 rw[rz]
 refine GT (k:=3) (by simp) (by decide) λz2 D8 ZH=>?_
 rw[Jl (b:= .int 0) (λa ha=>aW.mp (D8 a ha)) ZH]
 refine⟨_,M9.at_,by kernel_rfl,λqQ rJ=>bE ⟨rfl,?_⟩⟩
 have K4: ∀y o,σ y=some o->y≠dx->eO y=some o:=λy o e ne=>M4.keep _ _ (M3.keep _ _ (M2.keep _ _ (k1 y o e) ne) ne) ne
 have K5: ∀y o,σ y=some o->y≠dx->eY y=some o:=λy o e ne=>M5.keep _ _ (W3 _ _ (K4 y o e ne)) ne
 have K6: ∀y o,σ y=some o->y≠dx->wQ y=some o:=λy o e ne=>M6.keep _ _ (P3 _ _ (K5 y o e ne)) ne
 have EJ: ∀y o,wQ y=some o->y≠dx->qQ y=some o:=λy o e ne=>rJ.keep _ _ (M9.keep _ _ (M8.keep _ _ (M7.keep _ _ e ne) ne) ne) ne
 have ndx: ∀{y},σ y=none-> ∀o,σ y=some o->False:=λe o e'=>by rw[e] at e';cases e'
 have fr: ∀{fU:ah} {y:Addr},(∀y o,σ y=some o->y≠dx->fU y=some o)->fU y=none->σ y=none:=λ{fU y} k e=>by
  by_cases q:y=dx
  .rw[q];exact dn
  .cases e':σ y with
   |none=>rfl
   |some o=>rw[k y o e' q] at e;cases e
 have nw:wd≠dx:=λe=>by rw[e,M4.at_] at W2;cases W2
 have np:pd≠dx:=λe=>by rw[e,M5.at_] at P2;cases P2
 refine q ⟨x,dx,hi,wx,wd,px,pd⟩ qQ ⟨rJ.at_,⟨[],rJ.keep _ _ (M9.keep _ _ (M8.keep _ _ v7 n7) n7) n7,rfl⟩,EJ _ _ (M6.keep _ _ (P3 _ _ (M5.keep _ _ W1 nw)) nw) nw,EJ _ _ (M6.keep _ _ P1 np) np,λy hy o=>T.held o ?_⟩ λy o e=>EJ _ _ (K6 y o e (bp e dn)) (bp e dn)
 rcases hy with rfl |rfl |rfl |rfl
 .exact dn
 .exact fr K6 f7
 .exact fr K4 W2
 .exact fr K5 P2
end
noncomputable def EK(M k a b c:Nat):PL->Nat
 | .f i=>gI M k i | .a=>a | .b=>b | .c=>c
theorem qu{M:Nat}{f:Lf->Nat}{τ:PL->aF}: ∀p:bP,(p.bind τ).ev M f=p.ev M λv=>(τ v).ev M f
 | .lf v=>rfl
 | .ng a=>by show(M - (a.bind τ).ev M f)%M=_;rw[qu a];rfl
 | .ad a b=>by show((a.bind τ).ev M f+(b.bind τ).ev M f)%M=_;rw[qu a,qu b];rfl
 | .ml a b=>by show((a.bind τ).ev M f*(b.bind τ).ev M f)%M=_;rw[qu a,qu b];rfl
noncomputable def qH(n:Nat)(p:Nat->Bool):Bool:=(c7 n).all p
theorem sj{p:Nat->Bool}(h:qH n p=true){a:Nat}(ha:a<n):p a=true:=ox.mp h a (gL.mpr ha)
noncomputable def Jm(M:Nat)(R:bV):Bool:=qH M λk=>qH M λa=>qH M λb=>qH M λc=>Nat.beq (R.l.ev M (EK M k a b c)) (R.r.ev M (EK M k a b c))
def ze(M:Nat)(R:bV):Prop:= ∀τ:PL->aF,(∀i,τ (.f i)= .lf i)->ej M (R.l.bind τ) (R.r.bind τ)
theorem Vf{R:bV}(h:Jm M R=true):ze M R:=λτ tT k hk=>by
 have e:(λv=>(τ v).ev M (gI M k))=EK M k ((τ .a).ev M (gI M k)) ((τ .b).ev M (gI M k)) ((τ .c).ev M (gI M k)):=funext λv=>by
  cases v with
  |f i=>show(τ (.f i)).ev M (gI M k)=_;rw[tT];rfl
  |a=>rfl
  |b=>rfl
  |c=>rfl
 rw[qu,qu,e]
 exact Nat.eq_of_beq_eq_true (sj (sj (sj (sj h hk) (nO hk _)) (nO hk _)) (nO hk _))
theorem Sv(hM:M=2\/M=3\/M=4){R:bV}(hR:R∈jH M):ze M R:=by
 refine Vf (ox.mp (?_:(jH M).all (Jm M)=true) R hR)
 rcases hM with rfl |rfl |rfl<;>decide+kernel
structure oP(M:Nat)(R:bV):Prop where
 ok:u_ R
 XC:ze M R
 lf:R.l.c9.length<=20
 bd:bd R.l<=20000
 grow:R.l.ops+R.r.ops<=5
 ZI:R.l.ops<=5
noncomputable def Dt(R:bV):Bool:=vF R&&Nat.ble R.l.c9.length 20&&Nat.ble (bd R.l) 20000&&Nat.ble (R.l.ops+R.r.ops) 5
theorem oP.eV{M:Nat}{R:bV}(j:ze M R)(h:Dt R=true):oP M R:=by
 unfold Dt at h
 simp only[Bool.and_eq_true] at h
 obtain⟨⟨⟨h1,h2⟩,h3⟩,h4⟩:=h
 have h4:=Nat.le_of_ble_eq_true h4
 exact⟨.eV h1,j,Nat.le_of_ble_eq_true h2,Nat.le_of_ble_eq_true h3,h4,Nat.le_trans (Nat.le_add_right _ _) h4⟩
theorem B8(hM:M=2\/M=3\/M=4){R:bV}(hR:R∈jH M):oP M R:=by
 refine .eV (Sv hM hR) (ox.mp (?_:(jH M).all Dt=true) R hR)
 rcases hM with rfl |rfl |rfl<;>decide+kernel
section
variable{n:Nat}{af:Env}{m:au}{h:HA}{D D':HD}{σ aw σ':ah}{Q:AV->ah->Prop}{M K:Nat}{ts:ae aF}{a:iL}{rs:ae bV}{w:Str}{bx r nh:Nat}
theorem pT.fr(Z:pT a h D rs w bx r nh σ)(F:dU h D D' σ σ'):pT a h D' rs w bx r nh σ':=by
 obtain⟨l,hl,hn⟩:=Z.hi
 exact⟨(F _ _ Z.at_ (Z.bO _ (.inl rfl))).1,⟨l,(F _ _ hl (Z.bO _ (.inr (.inl rfl)))).1,hn⟩,(F _ _ Z.wk (Z.bO _ (.inr (.inr (.inl rfl))))).1,(F _ _ Z.pl (Z.bO _ (.inr (.inr (.inr rfl))))).1,λc hc=>by
  rcases hc with e |e |e |e
  .rw[e];exact(F _ _ Z.at_ (Z.bO _ (.inl rfl))).2
  .rw[e];exact(F _ _ hl (Z.bO _ (.inr (.inl rfl)))).2
  .rw[e];exact(F _ _ Z.wk (Z.bO _ (.inr (.inr (.inl rfl))))).2
  .rw[e];exact(F _ _ Z.pl (Z.bO _ (.inr (.inr (.inr rfl))))).2⟩
theorem fg.Mt{dj:cM}{ps:ae bP}(hl:D.par.length<=D'.par.length)(E:fg D θ ps dj):fg D' θ ps dj:=⟨⟨E.ok.nd,λp hp=>Nat.lt_of_lt_of_le (E.ok.lt p hp) hl⟩,E.key,E.len⟩
theorem bU.up{K':Nat}(O:bU M K D ts)(hk:K<=K'):bU M K' D ts:=
 ⟨O.pt,O.tt,O.ll,O.down,O.nd,O.tree,O.sound,O.kh,O.has,O.knd,O.kn,O.eh,O.ak,O.ab,O.gZ,O.wl,O.cf,O.cm,Nat.le_trans O.ce (Nat.add_le_add_left hk _),O.cp⟩
theorem B9(p:bP):yV p.av=true:=by rw[show p.av=_ from Tree.i6 _ _];rfl
theorem Iv(T:HS h D σ)(O:bU M K D ts)(hn:D.nodes.length<=20)(Z:pT a h D rs w bx r nh σ)(q:Q (.raw (.bool (decide (14<D.nodes.length)))) σ):aT 9 (.ref 595) [a.self] σ Q:=by
 refine fC (S "self") ?_
 intro Lo ev mv
 refine bC (vi rfl ?_)
 refine bG 364 ?_
 refine aS Z.at_ ?_
 refine bI T.at_ ?_
 show ww
 refine Ib T (O.hz (Nat.le_trans hn (by decide))) (dF (λω=>rfl) ?_)
 refine aS Z.at_ ?_
 refine⟨_,oY (.ca _),dI,?_⟩
 show ww
 refine on (f:=id) ef rfl (.ca _) (sJ w bx) ?_
 rw[Uc]
 refine s9 ?_
 have e:decide (((14:Nat):aj)<(D.nodes.length:aj))=decide (14<D.nodes.length):=by
  by_cases q:14<D.nodes.length
  .rw[decide_eq_true q,decide_eq_true (iP.mpr q)]
  .rw[cu q,cu λh=>q (iP.mp h)]
 rw[e];exact q
theorem Gu(T:HS h D σ)(O:bU M K D ts)(hn:D.nodes.length<=20)(Z:pT a h D rs w bx r nh σ)(hw:w=S "together"\/w=S "turns")(h3:rs.length=3){R:bV}(hk:rs[k]? =some R)(hR:oP M R)
  (q: ∀F:ae (Nat×cM),(∀f∈F,mX D R.l f.2)->F.length<=600000->Q (.lst (F.map lN)) σ):aT 52 (.ref 602) [a.self,am k] σ Q:=by
 have kl:k<3:=h3▸(cV.mp hk).1
 refine eL (S "self") (S "k") ?_
 intro Lo ev mv
 refine eM (bu rfl (bh ?_))
 refine aS Z.at_ ?_
 show ww
 refine g9 (.lst _) (λω ω=>rfl) (gf _) (by rw[ae.length_replicate];decide) (show(t_ 3 (AV.int 0))[((k:Nat):aj).toNat]? =some (.int 0) by rw[kp,ae.getElem?_replicate,if_pos kl]) ?_
 refine aS Z.at_ ?_
 refine s9 ⟨_,rfl,cu (uq.mpr (gf r)),?_⟩
 refine cg ?_
 refine bG 504 ?_
 refine aS Z.at_ ?_
 refine bI Z.wk ?_
 refine l_cons (yl (λω=>rfl) (bh ?_))
 refine aS Z.at_ ?_
 show ww
 refine jK (.lst _) (λω ω=>rfl) (by rw[h3];decide) hk ⟨534,R.at_,none,R.l.av,.ins,.eV (by kernel_rfl),rfl,x7 (B9 _),?_⟩
 show ww
 refine w_found T O (Nat.le_trans hn (by decide)) Z.wk hR.ok.dl hR.lf hR.bd λF hF lF=>aN ?_
 intro mv
 refine eM (iZ (kG (bu rfl (dF (λω=>rfl) ?_))))
 refine aS Z.at_ ?_
 refine⟨_,oY (.ca _),dI,?_⟩
 show ww
 refine on (f:=id) ef rfl (.ca _) (sJ w bx) ?_
 rw[B7]
 show ww
 refine fW ⟨_,rfl,bL (cu (by rcases hw with rfl |rfl<;>decide)) ⟨rfl,bC ?_⟩⟩
 show ww
 exact q F hF lF
theorem uj{κ:Type}{KK:κ->AV}{f:β->AV}(hK:iE KK): ∀(θ l:ae (κ×β)),((l++θ).map (·.1)).Nodup->oM (aZ KK f l) (aZ KK f θ)/\hU (aZ KK f l) (aZ KK f θ)=aZ KK f (l++θ):=by
 intro θ
 induction θ with
 |nil=>exactλl ω=>⟨trivial,by rw[lT];rfl⟩
 |cons p θ ih=>
  intro l hn
  have e:l++p::θ=(l++[p])++θ:=(Ay l [p] θ).symm
  have pD:((l++[p])++θ).map (·.1)=(l++p::θ).map (·.1):=by rw[e]
  rw[<- pD] at hn
  have hl:((l++[p]).map (·.1)).Nodup:=by
   rw[bX] at hn;exact(ot.mp hn).1
  have hp:aX p.1 l=none:=lm.mpr λq=>by
   rw[bX] at hl
   exact(ot.mp hl).2.2 _ q _ (.head _) rfl
  have ZJ:(l.map (·.1)).Nodup:=by rw[bX] at hl;exact(ot.mp hl).1
  have ds:iB (aZ KK f l) (KK p.1) (f p.2)=aZ KK f (l++[p]):=by rw[yg hK.inj,kA hp]
  obtain⟨h1,h2⟩:=ih (l++[p]) hn
  rw[<- ds] at h1 h2
  exact⟨⟨ma hK ZJ p.1,h1⟩,h2.trans (by rw[e])⟩
theorem Sw(θ:cM):ig θ= .tup (iW (aZ AV.str am θ)):=by
 unfold ig iW aZ;rw[cQ];rfl
theorem P0(hn:(jr θ).Nodup)(hz:θ.length<1000)(q:Q (mJ θ) σ):cK n (.type "dict") [ig θ] σ (DB Q):=by
 rw[Sw]
 obtain⟨h1,h2⟩:=uj (f:=am) ef θ [] hn
 refine PO h1 (by rw[kD];exact t2 hz) λd hd=>⟨_,_,.dict (bB _ _ _),?_⟩
 rw[B6 hd,show hU [] (aZ AV.str am θ)=aZ AV.str am θ from h2]
 exact q
noncomputable def Ka(ts:ae aF)(θ:cM):PL->aF
 | .f i=> .lf i
 |v=>ts.getD ((aX v.s θ).getD 0) t0
theorem Iw{K':Nat}{p:bP}(E:mX D p θ){v:PL}(hv:v∈p.c9):v9 M K' D ts θ (Ka ts θ) v:=λhV=>by
 have:v.s∈jr θ:=(E.key v.s).mpr (.inr ⟨p,.head _,v,hv,hV,rfl⟩)
 cases hg:aX v.s θ with
 |none=>exact ax this (lm.mp hg)
 |some k=>
  refine⟨k,rfl,E.ok.lt _ (eG hg),?_⟩
  cases v with
  |f i=>cases hV
  |a=>show _=ts.getD ((aX (PL.a).s θ).getD 0) t0;rw[hg];rfl
  |b=>show _=ts.getD ((aX (PL.b).s θ).getD 0) t0;rw[hg];rfl
  |c=>show _=ts.getD ((aX (PL.c).s θ).getD 0) t0;rw[hg];rfl
theorem v9.grow{K':Nat}{D':HD}{dW:ae aF}{v:PL}{c:Nat}(t:v9 M K D ts θ τ v)(O:bU M K D ts)(O':bU M K D' dW)(g:jX c D D' ts dW):v9 M K' D' dW θ τ v:=λhV=>by
 obtain⟨k,h1,h2,h3⟩:=t hV
 exact⟨k,h1,Nat.lt_of_lt_of_le h2 (by rw[O.pt,O'.pt];exact g.le),(g.ts k (by rw[O.tt,<- O.pt];exact h2)).trans h3⟩
theorem Sx(T:HS h D σ)(O:bU M K D ts)(hn:D.nodes.length<=14)(hK:K<=8000000)(Z:pT a h D rs w bx r nh σ){R:bV}(hR:oP M R)(eB:mX D R.l θ)
  (q: ∀b D' dW σ',HS h D' σ'->bU M (K+1) D' dW->dU h D D' σ σ'->jX 5 D D' ts dW->Q (.raw (.bool b)) σ'):aT 50 (.ref 607) [a.self,R.av,ig θ] σ Q:=by
 have tl:θ.length<1000:=Nat.lt_of_le_of_lt eB.len (Nat.lt_of_le_of_lt (show 0+(R.l.c9.length+0)<=20 by rw[Nat.zero_add];exact hR.lf) (by decide))
 refine mG (S "self") (S "rule") (S "subst") ?_
 intro Lo ev mv
 refine cg (nQ ?_)
 refine bq (.type "dict") ?_
 show ww
 refine P0 eB.ok.nd tl (aN ?_)
 intro mv
 refine eM (bu rfl (lM (e_tuple (l_nil ⟨Nat.zero_le _,?_⟩))))
 refine QY (λω h=>nomatch h) (λω h=>nomatch h) ⟨_,rfl,by rewrite [decide_eq_true rfl];rfl,?_⟩
 refine eM (bu rfl (fG [(S "table",Lo+2),(S "self",Lo+1)] (w_seq (lM ⟨_,.tup _,λi acc σ'=>σ'=σ/\acc=[],⟨rfl,rfl⟩,?_,?_⟩))))
 .intro C i b acc σ' hi I ce cm Jv
  cases hi
 intro acc σ' I
 obtain⟨e1,e2⟩:=I
 subst e1 e2
 refine gm (l_nil ⟨Nat.zero_le _,uF (λω h=>nomatch h) (λω h=>nomatch h) ⟨_,rfl,by rewrite [decide_eq_true rfl];rfl,?_⟩⟩)
 refine jW (sv rfl rfl rfl rfl rfl (e_tuple ?_))
 refine l_cons ?_
 refine bG 557 ?_
 refine aS Z.at_ ?_
 refine bI Z.pl ?_
 refine l_cons (lM (hh:=(B9 _).symm) ?_)
 show ww
 have td: ∀i,Ka ts θ (.f i)= .lf i:=λω=>rfl
 have zl:=hR.ZI
 have zg:=hR.grow
 refine(Jb (Nat.le_trans hK (by decide)) td eB.ok.nd 10 R.l hR.ok.dl T O (by lia) Z.pl (Z.bO _ (.inr (.inr (.inr rfl)))) (λv hv=>Iw eB hv) λk1 D1 cU aw T1 O1 F1 g1 mW e1=>?_).less (by decide)
 have S1:=Z.fr F1
 refine l_cons ?_
 refine bG 557 ?_
 refine aS S1.at_ ?_
 refine bI S1.pl ?_
 refine l_cons (lM (hh:=(B9 _).symm) ?_)
 show ww
 have g1l:=g1.len
 refine(Jb (Nat.le_trans hK (by decide)) td eB.ok.nd 10 R.r hR.ok.dr T1 O1 (by lia) S1.pl (S1.bO _ (.inr (.inr (.inr rfl)))) (λv hv hV=>(Iw (K':=K) eB (hR.ok.sub v hv hV)).grow (K':=K) O O1 g1 hV) λk2 D2 ez a_ T2 O2 F2 g2 kS e2=>?_).less (by decide)
 have S2:=S1.fr F2
 have g2l:=g2.len
 show ww
 refine⟨t2 (n:=2) (by decide),_,_,rfl,bC ?_⟩
 refine bG 407 ?_
 refine aS S2.at_ ?_
 refine bI T2.at_ ?_
 show ww
 refine e_tuple (l_cons (e_str (l_cons (lM (l_cons ?_)))))
 refine bq (.type "tuple") ?_
 show ww
 refine AP ?_
 show ww
 refine⟨t2 (n:=3) (by decide),?_⟩
 show ww
 have ZK:ts.length<=cU.length:=by rw[O.tt,O1.tt];exact g1.le
 have tl2:cU.length<=ez.length:=by rw[O1.tt,O2.tt];exact g2.le
 have G2:=g1.trans g2 ZK
 refine(R9 T2 O2 (by lia) (Nat.le_trans hK (by decide)) (Nat.lt_of_lt_of_le mW (by rw[O1.pt,O2.pt];exact g2.le)) kS ?_ λb D3 cn T3 O3 F3 n3=>?_).less (by decide)
 .rw[g2.ts k1 (by rw[O1.tt,<- O1.pt];exact mW),e1,e2]
  exact hR.XC _ td
 .refine q b D3 ez cn T3 O3 ((F1.trans F2).trans F3) ⟨λi s hs=>by rw[n3];exact G2.no i s hs,G2.ts,by rw[n3];exact G2.le,by rw[n3];exact Nat.le_trans G2.len (Nat.add_le_add_left zg _)⟩
end
section
def io(a:iL)(h:HA)(D D':HD)(σ σ':ah):Prop:= ∀c o,σ c=some o-> ¬ij h D c->c≠a.d->c≠a.hi->σ' c=some o/\ ¬ij h D' c
structure gJ(M K:Nat)(a:iL)(h:HA)(D:HD)(ts:ae aF)(rs:ae bV)(w:Str)(bx r nh:Nat)(σ:ah):Prop where
 T:HS h D σ
 O:bU M K D ts
 n:D.nodes.length<=19
 Z:pT a h D rs w bx r nh σ
variable{n:Nat}{af:Env}{m:au}{h:HA}{D D' mV:HD}{σ aw σ' fD:ah}{Q:AV->ah->Prop}{M K:Nat}{ts:ae aF}{a:iL}{rs:ae bV}{w:Str}{bx r nh:Nat}
theorem io.refl:io a h D D σ σ:=λc o e n ω ω=>⟨e,n⟩
theorem io.trans(p:io a h D D' σ σ')(q:io a h D' mV σ' fD):io a h D mV σ fD:=λc o e n n1 n2=>have x:=p c o e n n1 n2;q c o x.1 x.2 n1 n2
theorem io.of(p:dU h D D' σ σ'):io a h D D' σ σ':=λc o e n ω ω=>p c o e n
inductive ZL(M K:Nat)(a:iL)(h:HA)(D:HD)(rs:ae bV)(w:Str)(bx r nh k:Nat)(fs:AV)(σ:ah)(i:Nat)(m:au)(aw:ah):Prop
 |mk (D1:HD) (cU:ae aF) (j:Nat) (R:gJ M (K+i) a h D1 cU rs w bx r nh aw) (F:dU h D D1 σ aw) (le:D.nodes.length<=D1.nodes.length) (hj:j<=i)
  (m1:m (S "self")=some a.self) (m2:m (S "k")=some (am k)) (m3:m (S "found")=some fs) (m4:m (S "joined")=some (am j))
theorem Jn(R:gJ M K a h D ts rs w bx r nh σ)(h3:rs.length=3){Ru:bV}(hk:rs[k]? =some Ru)(hR:oP M Ru){F:ae (Nat×cM)}(hF: ∀f∈F,mX D Ru.l f.2)(lF:F.length<=600000)(hK:K+F.length<=8000000)(Mu:nh<900)
  (q: ∀j D' dW σ',gJ M (K+F.length) a h D' dW rs w bx r (nh+1) σ'->io a h D D' σ σ'->D.nodes.length<=D'.nodes.length->j<=F.length->Q (am j) σ'):aT 60 (.ref 614) [a.self,am k,.lst (F.map lN)] σ Q:=by
 refine mG (S "self") (S "k") (S "found") ?_
 intro Lo ev mv
 refine cg ?_
 show ww
 refine aN ?_
 intro mv
 refine oU (ZL M K a h D rs w bx r nh k (.lst (F.map lN)) σ) (λω ω=>rfl) (w_seq ?_)
 show ww
 refine⟨_,.lst _,.mk D ts 0 R .refl (Nat.le_refl _) (Nat.le_refl _) rfl rfl rfl rfl,?_,?_⟩
 .intro i b m1 aw hi I Qv
  rw[cP] at hi
  obtain⟨f,hf,rfl⟩:=dA.mp hi
  obtain⟨D1,cU,j,R1,F1,le,hj,jd,rG,rH,pS⟩:=I
  have il:=(cV.mp hf).1
  refine kC (.tup _) (eR (aN (eR (aN (kH ?_)))))
  refine gv (iZ (kG (yJ (mh (λω=>rfl) ?_))))
  refine bG 595 ?_
  show ww
  refine bI R1.Z.at_ ?_
  show ww
  refine(Iv R1.T R1.O (Nat.le_trans R1.n (by decide)) R1.Z ⟨_,rfl,?_⟩).less (by decide)
  by_cases C3:14<D1.nodes.length
  .rw[decide_eq_true C3]
   refine bL rfl (bL rfl (bE (bE (.mk D1 cU j ⟨R1.T,R1.O.up (Nat.add_le_add_left (Nat.le_succ i) K),R1.n,R1.Z⟩ F1 le (Nat.le_succ_of_le hj) jd rG rH pS))))
  .rw[cu C3]
   refine bS rfl (kG (mh (λω=>rfl) ?_))
   refine bG 607 ?_
   show ww
   refine bI R1.Z.at_ ?_
   refine l_cons (bh ?_)
   refine aS R1.Z.at_ ?_
   show ww
   refine jK (.lst _) (λω ω=>rfl) (by rw[h3];decide) hk ?_
   show ww
   have pl:D.par.length<=D1.par.length:=by rw[R.O.pt,R1.O.pt];exact le
   refine(Sx R1.T R1.O (Nat.le_of_not_lt C3) (Nat.le_trans (Nat.add_le_add_left (Nat.le_of_lt il) K) hK) R1.Z hR ((hF f (cO hf)).Mt pl) λb D2 ez a_ T2 O2 F2 g2=>⟨b,rfl,?_⟩).less (by decide)
   have n2:D2.nodes.length<=19:=by have:=g2.len;lia
   have R2:gJ M (K+(i+1)) a h D2 ez rs w bx r nh a_:=⟨T2,O2,n2,R1.Z.fr F2⟩
   cases b with
   |false=>exact bL rfl (bL rfl (bE (bE (.mk D2 ez j R2 (F1.trans F2) (Nat.le_trans le g2.le) (Nat.le_succ_of_le hj) jd rG rH pS))))
   |true=>
    refine bS rfl (jJ (bS rfl (cg (bR ?_))))
    show ww
    refine gp (aN (bE (bE (.mk D2 ez (j+1) R2 (F1.trans F2) (Nat.le_trans le g2.le) (Nat.succ_le_succ hj) jd rG rH ?_))))
    exact congrArg (λx=>some (AV.int x)) (kq j 1).symm
 .intro m1 aw I
  obtain⟨D1,cU,j,R1,F1,le,hj,jd,rG,rH,pS⟩:=I
  rw[ar] at R1 hj
  obtain⟨hl,hh,hlen⟩:=R1.Z.hi
  refine fb (dF (λω=>rfl) ?_)
  refine aS R1.Z.at_ ?_
  refine⟨_,ln (.ref hh),dI,?_⟩
  refine l_cons (e_tuple (l_cons ?_))
  refine aS R1.Z.at_ ?_
  refine l_cons (yl (λω=>rfl) (bh ?_))
  refine aS R1.Z.at_ ?_
  show ww
  refine jK (.lst _) (λω ω=>rfl) (by rw[h3];decide) hk ⟨534,Ru.at_,none,.str Ru.name,.ins,.eV (by kernel_rfl),rfl,x7 rfl,?_⟩
  refine l_cons ?_
  refine bq (.builtin "len") ?_
  show ww
  refine dL (.inr (.lst _)) (by rw[ar];exact Nat.lt_of_le_of_lt lF (by decide)) ?_
  show ww
  refine⟨t2 (n:=4) (by decide),?_⟩
  show ww
  refine uH hh (by rw[hlen];exact t3 (Nat.lt_trans Mu (by decide))) ⟨fJ,bC ?_⟩
  show ww
  have ZM: ¬ij h D1 a.hi:=R1.Z.bO _ (.inr (.inl rfl))
  have ZN:a.d≠a.hi:=λe=>by have:=R1.Z.at_;rw[e,hh] at this;cases this
  have EL:a.wd≠a.hi:=λe=>by have:=R1.Z.wk;rw[e,hh] at this;cases this
  have j9:a.pd≠a.hi:=λe=>by have:=R1.Z.pl;rw[e,hh] at this;cases this
  refine q j D1 cU _ ⟨R1.T.keep λc hc o e=>aP e λx=>ZM (x▸hc),R1.O,R1.n,⟨aP R1.Z.at_ ZN,⟨_,bB _ _ _,by rw[bQ,hlen];rfl⟩,aP R1.Z.wk EL,aP R1.Z.pl j9,R1.Z.bO⟩⟩ (λc o e n1 n2 n3=>?_) le hj
  have x:=F1 c o e n1
  exact⟨aP x.1 n3,x.2⟩
end
section
variable{n:Nat}{af:Env}{m:au}{h:HA}{D D' mV:HD}{σ aw σ' fD:ah}{Q:AV->ah->Prop}{M K:Nat}{ts:ae aF}{a:iL}{rs:ae bV}{w:Str}{bx r nh:Nat}
theorem gJ.up{K':Nat}(R:gJ M K a h D ts rs w bx r nh σ)(hk:K<=K'):gJ M K' a h D ts rs w bx r nh σ:=⟨R.T,R.O.up hk,R.n,R.Z⟩
theorem Bh(R:gJ M K a h D ts rs w bx r nh σ)(hK:K<=9000000)(q: ∀D' σ',gJ M K a h D' ts rs w bx r nh σ'->io a h D D' σ σ'->D'.nodes=D.nodes->Q (.raw .none) σ'):aT 15 (.ref 421) [h.self] σ Q:=
 QK R.T R.O (Nat.le_trans R.n (by decide)) hK λD' σ' T' O' F n' ω=>q D' σ' ⟨T',O',by rw[n'];exact R.n,R.Z.fr F⟩ (.of F) n'
inductive ZO(M K:Nat)(a:iL)(h:HA)(D:HD)(rs:ae bV)(w:Str)(bx r nh:Nat)(σ:ah)(i:Nat)(m:au)(aw:ah):Prop
 |mk (D1:HD) (cU:ae aF) (j:Nat) (R:gJ M (K+i*600000) a h D1 cU rs w bx r (nh+i) aw) (F:io a h D D1 σ aw) (le:D.nodes.length<=D1.nodes.length)
  (m1:m (S "self")=some a.self) (m4:m (S "joined")=some (am j))
inductive ZP(M K:Nat)(a:iL)(h:HA)(D:HD)(rs:ae bV)(w:Str)(bx r nh:Nat)(σ:ah)(i:Nat)(acc:ae AV)(aw:ah):Prop
 |mk (D1:HD) (cU:ae aF) (js:ae Nat) (R:gJ M (K+i*600000) a h D1 cU rs w bx r (nh+i) aw) (F:io a h D D1 σ aw) (le:D.nodes.length<=D1.nodes.length) (e:acc=js.map am) (l:js.length<=i)
theorem Sy(l:ae Nat):l.map am=(l.map λk:Nat=>(k:aj)).map .int:=by rw[cQ];rfl
structure Mw(M:Nat)(rs:ae bV)(w:Str):Prop where
 h3:rs.length=3
 run: ∀R∈rs,oP M R
 w:w=S "together"\/w=S "turns"
theorem zf: ∀{i:Nat} {x:AV},(jF 0 3)[i]? =some x->i<3/\x=am i
 |0,x,h=>⟨by decide,(aB.some.inj h).symm⟩
 |1,x,h=>⟨by decide,(aB.some.inj h).symm⟩
 |2,x,h=>⟨by decide,(aB.some.inj h).symm⟩
 |_+3,x,h=>by cases h
theorem Sz(R:gJ M K a h D ts rs w bx r nh σ)(U:Mw M rs w)(hK:K<=6000000)(Mu:nh<800)
  (q: ∀(j:Nat) D' dW σ',gJ M (K+3*600000) a h D' dW rs w bx (r+1) (nh+3) σ'->io a h D D' σ σ'->D.nodes.length<=D'.nodes.length->Q (am j) σ'):aT 66 (.ref 619) [a.self] σ Q:=by
 have h3:=U.h3
 have fin: ∀{j:Nat} {D1:HD} {cU:ae aF} {aw a_:ah},gJ M (K+3*600000) a h D1 cU rs w bx r (nh+3) aw->io a h D D1 σ aw->D.nodes.length<=D1.nodes.length->Mk a.d (.attrs (mB (a.at_ h rs w bx r) (S "rounds") (.int ((r:aj)+1)))) aw a_->Q (am j) a_:=by
  intro j D1 cU aw a_ R1 F1 le M1
  have ZQ: ¬ij h D1 a.d:=R1.Z.bO _ (.inl rfl)
  obtain⟨hl,hh,hlen⟩:=R1.Z.hi
  have cj:a.hi≠a.d:=λe=>by rw[e,R1.Z.at_] at hh;cases hh
  have EL:a.wd≠a.d:=λe=>by have:=R1.Z.wk;rw[e,R1.Z.at_] at this;cases this
  have j9:a.pd≠a.d:=λe=>by have:=R1.Z.pl;rw[e,R1.Z.at_] at this;cases this
  refine q j D1 cU a_ ⟨R1.T.keep λc hc o e=>M1.keep c o e λx=>ZQ (x▸hc),R1.O,R1.n,⟨M1.at_,⟨hl,M1.keep _ _ hh cj,hlen⟩,M1.keep _ _ R1.Z.wk EL,M1.keep _ _ R1.Z.pl j9,R1.Z.bO⟩⟩ (λc o e n1 n2 n3=>?_) le
  have x:=F1 c o e n1 n2 n3
  exact⟨M1.keep _ _ x.1 n2,x.2⟩
 have l3:(jF 0 3).length=3:=rfl
 refine fC (S "self") ?_
 intro Lo ev mv
 refine jW (sv rfl rfl rfl rfl rfl (e_tuple ?_))
 show ww
 refine bq (.type "range") ?_
 refine l_cons ?_
 refine bq (.builtin "len") ?_
 refine l_cons ?_
 refine aS R.Z.at_ ?_
 show ww
 refine dL (.inr (.lst _)) (by rw[ar,h3];decide) ?_
 rw[ar,h3]
 show ww
 refine uU λrg t u v km=>?_
 have EM:io a h D D σ (aA σ rg (.raw (gN 0 3 t u v))):=λc o e n ω ω=>⟨aP e (bp e km),n⟩
 have kg:dg σ (aA σ rg (.raw (gN 0 3 t u v))):=iR km
 have R0:gJ M K a h D ts rs w bx r nh (aA σ rg (.raw (gN 0 3 t u v))):=by
  obtain⟨hl,hh,hlen⟩:=R.Z.hi
  exact⟨R.T.keep λc ω o e=>kg c o e,R.O,R.n,⟨kg _ _ R.Z.at_,⟨hl,kg _ _ hh,hlen⟩,kg _ _ R.Z.wk,kg _ _ R.Z.pl,R.Z.bO⟩⟩
 have Mx: ¬ij h D rg:=λo=>R.T.held o km
 have My:rg≠a.d:=λe=>by have:=R.Z.at_;rw[<- e,km] at this;cases this
 have Mz:rg≠a.hi:=λe=>by obtain⟨hl,hh,_⟩:=R.Z.hi;rw[<- e,km] at hh;cases hh
 have ag:aA σ rg (.raw (gN 0 3 t u v)) rg=some (.raw (gN 0 3 t u v)):=bB _ _ _
 revert EM R0 ag
 refine dP (aA σ rg (.raw (gN 0 3 t u v))) λfU=>?_
 intro EM R0 ag
 show ww
 refine⟨t2 (n:=2) (by decide),_,_,rfl,?_⟩
 refine fb ?_
 refine bG 421 ?_
 refine aS R0.Z.at_ ?_
 refine bI R0.T.at_ ?_
 show ww
 refine(Bh R0 (Nat.le_trans hK (by decide)) λD1 aw R1 F1 n1=>⟨fJ,?_⟩).less (by decide)
 have MA:=EM.trans F1
 have MB:D.nodes.length<=D1.nodes.length:=by rw[n1];exact Nat.le_refl _
 have EN:aw rg=some (.raw (gN 0 3 t u v)):=(F1 _ _ ag Mx My Mz).1
 have aan: ¬ij h D1 rg:=(F1 _ _ ag Mx My Mz).2
 have wk: ∀{t':Expr} {a_:ah},a_ rg=some (.raw (gN 0 3 t u v))->yO t' (.raw (.ref rg)) a_ (jF 0 3):=λe=>uI ⟨rg,t,u,v,rfl,e⟩ (by decide) (by decide) (by decide)
 refine gv (bu rfl (dF (λω=>rfl) ?_))
 refine aS R1.Z.at_ ?_
 refine⟨_,oY (.ca _),dI,?_⟩
 show ww
 refine on (f:=id) ef rfl (.ca _) (sJ w bx) ?_
 rw[B7]
 show ww
 refine fW ⟨_,rfl,?_⟩
 by_cases hw:w=S "turns"
 .refine bS (decide_eq_true hw) (oU (λi m' σ'=>m' (S "some")=some (.raw (.ref rg))/\ZO M K a h D1 rs w bx r nh aw i m' σ') (λω ω=>rfl) (w_of ?_))
  show ww
  refine⟨_,wk EN,⟨rfl,.mk D1 ts 0 (by rw[Nat.zero_mul];exact R1) .refl (Nat.le_refl _) rfl rfl⟩,?_,?_⟩
  .intro i b m2 a_ hi I Qv
   obtain⟨mr,D2,ez,j,R2,F2,kX,jd,pS⟩:=I
   obtain⟨i3,rfl⟩:=zf hi
   have hk:=cL (h3.symm▸i3:i<rs.length)
   generalize rs[i]=Ru at hk
   have hR:=U.run Ru (cO hk)
   refine aN ?_
   intro mv
   refine cg (bR ?_)
   show ww
   refine bG 614 ?_
   show ww
   refine bI R2.Z.at_ ?_
   refine l_cons ?_
   show ww
   refine bG 602 ?_
   show ww
   refine bI R2.Z.at_ ?_
   show ww
   refine(Gu R2.T R2.O (Nat.le_trans R2.n (by decide)) R2.Z U.w h3 hk hR λFm hF lF=>?_).less (by decide)
   show ww
   have ib:i*600000+600000<=3*600000:=by rw[<- Nat.succ_mul];exact Nat.mul_le_mul_right _ i3
   refine(Jn R2 h3 hk hR hF lF (by lia) (by lia) λj2 D3 zY cn R3 F3 EO ZR=>gp ?_).less (by decide)
   rw[show((j:aj)+(j2:aj))=((j+j2:Nat):aj) from(kq j j2).symm]
   refine aN ?_
   intro mv
   refine fb ?_
   refine bG 421 ?_
   refine aS R3.Z.at_ ?_
   refine bI R3.T.at_ ?_
   show ww
   have ZS:gJ M (K+(i+1)*600000) a h D3 zY rs w bx r (nh+i+1) cn:=R3.up (by rw[Nat.succ_mul,<- Nat.add_assoc];exact Nat.add_le_add_left lF _)
   have kb:K+(i+1)*600000<=9000000:=by
    have e:=Nat.succ_mul i 600000
    have e':(i+1)*600000=i*600000+600000:=e
    rw[e'];exact Nat.le_trans (Nat.add_le_add hK ib) (by decide)
   refine(Bh ZS kb λD4 eO R4 F4 n4=>⟨fJ,bE ⟨mr,.mk D4 zY (j+j2) R4 (F2.trans (F3.trans F4)) (by rw[n4];exact Nat.le_trans kX EO) jd rfl⟩⟩).less (by decide)
  .intro m2 a_ I
   rw[l3] at I
   obtain⟨mr,D2,ez,j,R2,F2,kX,jd,pS⟩:=I
   refine bE ?_
   refine dq ?_
   refine bR ?_
   refine aS R2.Z.at_ ?_
   show ww
   refine gp ⟨_,R2.Z.at_,by kernel_rfl,λcn M3=>bC ?_⟩
   show ww
   exact fin R2 (MA.trans F2) (Nat.le_trans MB kX) M3
 .refine bL (cu hw) (cg (fG [(S "self",Lo+1)] (w_of ?_)))
  show ww
  refine⟨_,wk EN,λi acc σ'=>σ'=aw/\ ∃Fs:ae (ae (Nat×cM)),acc=Fs.map (λF=> .lst (F.map lN))/\Fs.length=i/\ ∀(j:Nat) (Ru:bV) (F:ae (Nat×cM)),rs[j]? =some Ru->Fs[j]? =some F->(∀f∈F,mX D1 Ru.l f.2)/\F.length<=600000,⟨rfl,[],rfl,rfl,(λj Ru F ω h=>nomatch h)⟩,?_,?_⟩
  .intro C i b acc a_ hi I ce cm Jv
   obtain⟨e1,Fs,e2,lF,hF⟩:=I
   subst e1 e2
   obtain⟨i3,rfl⟩:=zf hi
   have hk:=cL (h3.symm▸i3:i<rs.length)
   generalize rs[i]=Ru at hk
   have hR:=U.run Ru (cO hk)
   refine aN (iV (bS rfl ?_))
   refine bG 602 ?_
   show ww
   refine bI R1.Z.at_ ?_
   show ww
   refine(Gu R1.T R1.O (Nat.le_trans R1.n (by decide)) R1.Z U.w h3 hk hR λFm EP zZ=>⟨?_,rfl,Fs++[Fm],by rw[bX];rfl,by rw[bQ,lF];rfl,λj ZT F' h1 h2=>?_⟩).less (by decide)
   .rw[ar,lF];exact t3 (Nat.lt_trans i3 (by decide))
   .rcases Nat.lt_or_ge j Fs.length with q |q
    .rw[mZ q] at h2;exact hF j ZT F' h1 h2
    .rw[oo q] at h2
     have:j=Fs.length:=by
      have:=(cV.mp h2).1
      rw[Fh] at this;exact Nat.le_antisymm (Nat.le_of_sub_eq_zero (Nat.lt_one_iff.mp this)) q
     subst this
     rw[Nat.sub_self] at h2
     cases h2
     rw[lF,hk] at h1;cases h1
     exact⟨EP,zZ⟩
  intro acc a_ I
  rw[l3] at I
  obtain⟨e1,Fs,e2,lF,hF⟩:=I
  subst e1 e2
  refine aN ?_
  intro mv
  refine cg ?_
  refine bq (.builtin "sum") ?_
  refine l_cons (fG [(S "self",Lo+1),(S "lists",Lo+2)] (w_of ?_))
  show ww
  refine⟨_,wk EN,ZP M K a h D1 rs w bx r nh a_,.mk D1 ts [] (by rw[Nat.zero_mul];exact R1) .refl (Nat.le_refl _) rfl (Nat.le_refl _),?_,?_⟩
  .intro C i b acc cn hi I ce cm Jv
   obtain⟨D2,ez,js,R2,F2,kX,rfl,lj⟩:=I
   obtain⟨i3,rfl⟩:=zf hi
   have hk:=cL (h3.symm▸i3:i<rs.length)
   generalize rs[i]=Ru at hk
   have hR:=U.run Ru (cO hk)
   have hf:=cL (lF.symm▸i3:i<Fs.length)
   generalize Fs[i]=Fm at hf
   obtain⟨EP,zZ⟩:=hF i Ru Fm hk hf
   have gt:(λF:ae (Nat×cM)=>AV.lst (F.map lN)) Fm= .lst (Fm.map lN):=rfl
   refine aN (nD (bu rfl (bh ?_)))
   show ww
   refine jK (f:=λF:ae (Nat×cM)=>AV.lst (F.map lN)) (.lst _) (λω ω=>rfl) (by rw[lF];decide) hf ?_
   show ww
   refine rY ⟨_,rfl,bS rfl ?_⟩
   refine bG 614 ?_
   show ww
   refine bI R2.Z.at_ ?_
   refine l_cons ?_
   show ww
   refine bh ?_
   show ww
   refine jK (f:=λF:ae (Nat×cM)=>AV.lst (F.map lN)) (.lst _) (λω ω=>rfl) (by rw[lF];decide) hf ?_
   show ww
   have ib:i*600000+600000<=3*600000:=by rw[<- Nat.succ_mul];exact Nat.mul_le_mul_right _ i3
   have pl:D1.par.length<=D2.par.length:=by rw[R1.O.pt,R2.O.pt];exact kX
   refine(Jn R2 h3 hk hR (λf ZU=>(EP f ZU).Mt pl) zZ (by lia) (by lia) λj2 D3 zY eO R3 F3 EO ZR=>⟨?_,.mk D3 zY (js++[j2]) (R3.up ?_) (F2.trans F3) (Nat.le_trans kX EO) (by rw[bX];rfl) ?_⟩).less (by decide)
   .rw[ar];exact t3 (Nat.lt_of_le_of_lt lj (Nat.lt_trans i3 (by decide)))
   .rw[Nat.succ_mul,<- Nat.add_assoc];exact Nat.add_le_add_left zZ _
   .rw[bQ];exact Nat.succ_le_succ lj
  intro acc cn I
  rw[l3] at I
  obtain⟨D2,ez,js,R2,F2,kX,rfl,lj⟩:=I
  show ww
  rw[Sy]
  refine vB (by rw[ar];exact t2 (Nat.lt_of_le_of_lt lj (by decide))) ?_
  rw[x9]
  refine aN ?_
  intro mv
  refine fb ?_
  refine bG 421 ?_
  refine aS R2.Z.at_ ?_
  refine bI R2.T.at_ ?_
  show ww
  refine(Bh R2 (by lia) λD3 eO R3 F3 n3=>⟨fJ,bE ?_⟩).less (by decide)
  refine dq ?_
  refine bR ?_
  refine aS R3.Z.at_ ?_
  show ww
  refine gp ⟨_,R3.Z.at_,by kernel_rfl,λeY M5=>bC ?_⟩
  show ww
  exact fin R3 (MA.trans (F2.trans F3)) (by rw[n3];exact Nat.le_trans MB kX) M5
end
section
variable{n:Nat}{af:Env}{m:au}{h:HA}{D D' mV:HD}{σ aw σ' fD:ah}{Q:AV->ah->Prop}{M K:Nat}{ts:ae aF}{a:iL}{rs:ae bV}{w:Str}{bx r nh:Nat}
inductive MC(M:Nat)(a:iL)(h:HA)(D:HD)(rs:ae bV)(w:Str)(bx:Nat)(σ:ah)(k:Nat)(m:au)(aw:ah):Prop
 |mk (D1:HD) (cU:ae aF) (r:Nat) (R:gJ M (r*1800000) a h D1 cU rs w bx r (r*3) aw) (F:io a h D D1 σ aw) (e:r+k=bx) (m1:m (S "self")=some a.self)
theorem Vg(R:gJ M 0 a h D ts rs w bx 0 0 σ)(U:Mw M rs w)(hl:bx<=2)
  (q: ∀e K' D' dW σ',(e=S "settled"\/e=S "nodes"\/e=S "rounds")->HS h D' σ'->bU M K' D' dW->D'.nodes.length<=19->io a h D D' σ σ'->Q (.str e) σ'):aT 69 (.ref 624) [a.self] σ Q:=by
 refine fC (S "self") ?_
 intro Lo ev mv
 refine uK (MC M a h D rs w bx σ) bx (.mk D ts 0 R .refl (Nat.zero_add _) rfl) λk m1 aw I=>?_
 intro Qv
 obtain⟨D1,cU,r,R1,F1,ek,jd⟩:=I
 have rl:r<=2:=Nat.le_trans (ek▸Nat.le_add_right r k) hl
 refine bu rfl ?_
 refine aS R1.Z.at_ ?_
 refine dF (λω=>rfl) ?_
 refine aS R1.Z.at_ ?_
 refine⟨_,oY (.ca _),dI,?_⟩
 show ww
 refine on (f:=id) ef rfl (.ca _) (sJ w bx) ?_
 rw[Ud]
 refine pf ⟨_,rfl,?_⟩
 by_cases hr:r<bx
 .refine bS (decide_eq_true (iP.mpr hr)) (cg ?_)
  refine bG 619 ?_
  show ww
  refine bI R1.Z.at_ ?_
  show ww
  have kb:r*1800000<=6000000:=Nat.le_trans (Nat.mul_le_mul_right _ rl) (by decide)
  refine(Sz R1 U kb (Nat.lt_of_le_of_lt (Nat.mul_le_mul_right 3 rl) (by decide)) λj D2 ez a_ R2 F2 kX=>aN ?_).less (by decide)
  have ZV:gJ M ((r+1)*1800000) a h D2 ez rs w bx (r+1) ((r+1)*3) a_:=by
   rw[Nat.succ_mul,Nat.succ_mul];exact R2
  have EQ:=F1.trans F2
  have next: ∀{m3:au},m3 (S "self")=some a.self-> ∃j',j'<k/\MC M a h D rs w bx σ j' m3 a_:=λms=>by
   cases k with
   |zero=>exact ax hr (Nat.not_lt_of_le (Nat.le_of_eq ek.symm))
   |succ j=>exact⟨j,Nat.lt_succ_self _,.mk D2 ez (r+1) ZV EQ ((Nat.succ_add_eq_add_succ r j).trans ek) ms⟩
  refine gv (mh (λω=>rfl) ?_)
  refine bG 595 ?_
  show ww
  refine bI R2.Z.at_ ?_
  show ww
  refine(Iv R2.T R2.O (Nat.le_trans R2.n (by decide)) R2.Z ⟨_,rfl,?_⟩).less (by decide)
  by_cases hf:14<D2.nodes.length
  .refine bS (decide_eq_true hf) (bC ?_)
   show ww
   exact q _ _ D2 ez a_ (.inr (.inl rfl)) R2.T R2.O R2.n EQ
  .refine bL (cu hf) (bE (gv (iZ (kG (bu rfl ?_)))))
   show ww
   refine jt ⟨_,rfl,?_⟩
   by_cases hj:j=0
   .refine bS (nM hj) (kG (bu rfl (fG [(S "self",Lo+1)] (w_seq ?_))))
    refine aS R2.Z.at_ ?_
    refine⟨_,.lst _,λi acc σ'=>σ'=a_/\acc=[],⟨rfl,rfl⟩,?_,?_⟩
    .intro C i b acc cn hi I ce cm Jv
     obtain⟨e1,e2⟩:=I
     subst e1 e2
     have hb:b= .int 0:=ae.eq_of_mem_replicate (cO hi)
     subst hb
     refine aN (nD (bu rfl ?_))
     show ww
     refine aS R2.Z.at_ ?_
     refine Wt ⟨_,rfl,bL (cu λh=>?_) ⟨rfl,rfl⟩⟩
     exact ax (lW.mp (show((r+1:Nat):aj)<=((0:Nat):aj) from h)) (Nat.not_succ_le_zero r)
    .intro acc cn I
     obtain⟨e1,e2⟩:=I
     subst e1 e2
     refine gm (l_nil ⟨Nat.zero_le _,G4 (λω h=>nomatch h) (λω h=>nomatch h) ⟨_,rfl,bS (decide_eq_true rfl) (jJ (bS rfl (bC ?_)))⟩⟩)
     show ww
     exact q _ _ D2 ez cn (.inl rfl) R2.T R2.O R2.n EQ
   .exact bL (nJ hj) (bL rfl (bE (bE (next jd))))
 .refine bL (cu λh=>hr (iP.mp h)) (bC ?_)
  show ww
  exact q _ _ D1 cU aw (.inr (.inr rfl)) R1.T R1.O R1.n F1
end
section
noncomputable abbrev jQ(cells:ae aj)(turn dN:Nat):ae (Str×AV):=[(S "cells",.lst (cells.map .int)),(S "turn",am turn),(S "blend",am dN)]
noncomputable def jL(cells:ae aj)(turn dN:Nat):AO:= .dict (aZ .str id (jQ cells turn dN))
section
variable(cells:ae aj)(turn dN:Nat)
theorem qI:((jQ cells turn dN).map (·.1)).Nodup:=by
 show[S "cells",S "turn",S "blend"].Nodup
 decide
theorem HK:aX (S "cells") (jQ cells turn dN)=some (.lst (cells.map .int)):=by rw[dS,if_pos rfl]
theorem Ix:aX (S "turn") (jQ cells turn dN)=some (am turn):=by rw[dS,aK (show ¬S "cells"=S "turn" by decide),dS,if_pos rfl]
theorem SA:aX (S "blend") (jQ cells turn dN)=some (am dN):=by rw[dS,aK (show ¬S "cells"=S "blend" by decide),dS,aK (show ¬S "turn"=S "blend" by decide),dS,if_pos rfl]
theorem Vh:bH (S "turn") (am (turn+1)) (jQ cells turn dN)=jQ cells (turn+1) dN:=by rw[li,aK (show ¬S "cells"=S "turn" by decide),li,if_pos rfl]
end
theorem sq{a:Nat}(h:a<1024):PySem.Builtin.Int.intBits (a:aj)<=10:=intBits_le_iff.mpr h
theorem G3(c:aj){wide:Nat}(hw:0<wide): ∃d:Nat,d<wide/\c.fmod wide=(d:aj):=by
 rw[Af _ (gf wide)]
 have h0:(wide:aj)≠0:=λe=>by have:wide=0:=rX e;lia
 have h1:=Oz c h0
 have h2:=aj.emod_lt_of_pos c (iP.mpr hw)
 exact⟨(c%wide).toNat,by lia,(aj.toNat_of_nonneg h1).symm⟩
variable{n:Nat}{af:Env}{m:au}{σ aw σ':ah}{Q:AV->ah->Prop}{fd:Addr}{cells:ae aj}{turn dN:Nat}
theorem mn(hf:σ fd=some (jL cells turn dN))(hc:cells.length<=40)(ht:turn<500){wide:Nat}(hw:0<wide)
  (q: ∀d σ',d<wide->Mk fd (jL cells (turn+1) dN) σ σ'->Q (am d) σ'):aT 3 (.ref 697) [.raw (.ref fd),am wide] σ Q:=by
 have w0:(wide:aj)≠0:=λe=>by have:wide=0:=rX e;lia
 refine eL (S "feed") (S "wide") ?_
 intro Lo ev mv
 refine cg (bR (bh ?_))
 show ww
 refine ge (f:=id) ef rfl (.ref hf) (λω ω=>rfl) (qI _ _ _) (Ix _ _ _) ?_
 show ww
 refine gp ?_
 rw[show((turn:aj)+1)=((turn+1:Nat):aj) from(kq turn 1).symm]
 refine o5 (f:=id) ef (λω ω ω ω=>rfl) ?_
 show ww
 refine⟨fd,_,S "turn",am (turn+1),rfl,rfl,rfl,hf,qI _ _ _,(by decide:3<1000),?_⟩
 rw[Vh]
 have M1:Mk fd (jL cells (turn+1) dN) σ (aA σ fd (.dict (aZ .str id (jQ cells (turn+1) dN)))):=⟨bB _ _ _,λy o e ne=>aP e ne⟩
 revert M1
 refine dP (aA σ fd (.dict (aZ .str id (jQ cells (turn+1) dN)))) λaw=>?_
 intro M1
 have h1:=M1.at_
 refine cg (bh ?_)
 show ww
 refine ge (f:=id) ef rfl (.ref h1) (λω ω=>rfl) (qI _ _ _) (Ix _ _ _) (aN ?_)
 intro mv
 refine gv (bu rfl ?_)
 show ww
 refine bq (.builtin "len") ?_
 refine l_cons (bh ?_)
 show ww
 refine ge (f:=id) ef rfl (.ref h1) (λω ω=>rfl) (qI _ _ _) (HK _ _ _) ?_
 show ww
 refine dL (.inr (.lst _)) (by rw[ar];exact t1 (Nat.lt_of_le_of_lt hc (by decide))) (C8 ⟨_,rfl,?_⟩)
 rw[ar]
 by_cases hl:turn+1<=cells.length
 .refine bS (decide_eq_true (lW.mpr hl)) (bC (bR (bh (bh ?_))))
  show ww
  refine ge (f:=id) ef rfl (.ref h1) (λω ω=>rfl) (qI _ _ _) (HK _ _ _) ?_
  refine bR ?_
  show ww
  refine mq ?_
  rw[show((turn+1:Nat):aj) - 1=(turn:Nat) from by lia]
  refine g9 (.lst _) (λω ω=>rfl) (gf _) (by rw[ar];exact t1 (Nat.lt_of_le_of_lt hc (by decide))) (show(cells.map AV.int)[((turn:Nat):aj).toNat]? =some (.int (cells[turn]'hl)) by rw[kp,cP,cL hl];rfl) ?_
  show ww
  refine jM w0 ?_
  obtain⟨d,d1,d2⟩:=G3 (cells[turn]'hl) hw
  rw[d2];exact q d aw d1 M1
 .refine bL (cu λh=>hl (lW.mp h)) (bE (bC (bR (bR (bR (bR (bR (bR (bR ?_)))))))))
  have tb:PySem.Builtin.Int.intBits ((turn+1:Nat):aj)<=10:=sq (by lia)
  show ww
  refine sQ (xA (sq (a:=5) (by decide)) tb (by decide)) ?_
  show ww
  refine sQ (xA (intBits_mul_le (sq (a:=5) (by decide)) tb) tb (by decide)) (bR ?_)
  show ww
  refine sQ (xA (sq (a:=11) (by decide)) tb (by decide)) (gp (bR ?_))
  show ww
  refine Vx (by decide) ?_ (gp (bh ?_))
  .rfl
  show ww
  refine ge (f:=id) ef rfl (.ref h1) (λω ω=>rfl) (qI _ _ _) (SA _ _ _) (gp ?_)
  show ww
  refine jM (by decide) ?_
  show ww
  refine jM w0 ?_
  obtain⟨d,d1,d2⟩:=G3 _ hw
  rw[d2];exact q d aw d1 M1
theorem Mk.two{a b c:Nat}(p:Mk fd (jL cells b dN) σ aw)(q:Mk fd (jL cells c dN) aw σ'):Mk fd (jL cells c dN) σ σ':=⟨q.at_,λy o e ne=>q.keep y o (p.keep y o e ne) ne⟩
noncomputable def Kb(M:Nat):ae Lf:=[.d0,.d1,.d2,EA M,.vx]
theorem Ue(hM:M=2\/M=3\/M=4)(hc:cells.length<=40): ∀(high:Nat) {turn:Nat} {σ:ah} {Q:AV->ah->Prop},high<3->turn+(5*high+2)<=400->σ fd=some (jL cells turn dN)->
  (∀(t:aF) vI σ',t.dep<=high->vI<=turn+(5*high+2)->Mk fd (jL cells vI dN) σ σ'->Q t.av σ')->aT (3*high+6) (.ref 704) [.raw (.ref fd),am M,am high] σ Q:=by
 intro high
 induction high using Nat.strongRecOn with
 |_ high ih=>
 intro turn σ Q hh ht hf q
 show aT ((3*high+3)+3) _ _ _ _
 refine mG (S "feed") (S "many") (S "high") ?_
 intro Lo ev mv
 refine cg ?_
 refine bY 697 ?_
 show ww
 refine(mn hf hc (by lia) (wide:=5) (by decide) λway aw XD M1=>aN ?_).less (Nat.le_add_left _ _)
 refine gn ((decide (high=0)||decide (way<2))) λlow qR=>?_
 refine gv (fv.mono (Q:=λb σ'=>σ'=aw/\b=low) (iZ (h9 (bu rfl ?_))) λb σ' e=>?_)
 .show ww
  refine jt ⟨_,rfl,?_⟩
  by_cases h0:high=0
  .refine bS (nM h0) ⟨rfl,?_⟩
   rw[<- qR,decide_eq_true h0];rfl
  .refine bL (nJ h0) (h9 (bu rfl ?_))
   show ww
   refine pf ⟨_,rfl,?_⟩
   rw[cu h0,Bool.false_or] at qR
   by_cases h2:way<2
   .refine bS (decide_eq_true (iP.mpr h2)) ⟨rfl,?_⟩
    rw[<- qR,decide_eq_true h2]
   .refine bL (cu λh=>h2 (iP.mp h)) (jJ ⟨rfl,?_⟩)
    rw[<- qR,cu h2];rfl
 obtain⟨e1,e2⟩:=e
 subst e1 e2
 cases b with
 |true=>
  refine bS rfl (bC (e_tuple (l_cons (bh (gm ?_)))))
  show ww
  refine bq (.type "str") ?_
  show ww
  refine GU (by rcases hM with rfl |rfl |rfl<;>decide) ?_
  rw[J5 hM]
  show ww
  refine⟨t2 (n:=5) (by decide),?_⟩
  refine bY 697 ?_
  show ww
  refine(mn M1.at_ hc (by lia) (wide:=5) (by decide) λd a_ hd M2=>?_).less (Nat.le_add_left _ _)
  obtain⟨i,hi⟩: ∃i,(Kb M)[d]? =some i:=⟨_,cL hd⟩
  refine g9 (.lst _) (λω ω=>rfl) (gf _) (t1 (n:=5) (by decide)) (show((Kb M).map λi=>AV.str i.s)[((d:Nat):aj).toNat]? =some (.str i.s) by rw[kp,cP,hi];rfl) ?_
  show ww
  exact⟨t2 (n:=1) (by decide),q (.lf i) (turn+1+1) a_ (Nat.zero_le _) (by lia) (M1.two (a:=turn) M2)⟩
 |false=>
  rw[Bool.or_eq_false_iff] at qR
  have h0:high≠0:=Av qR.1
  have h2: ¬way<2:=Av qR.2
  obtain⟨hg,rfl⟩:=Nat.exists_eq_succ_of_ne_zero h0
  have hj:((hg+1:Nat):aj) - 1=((hg:Nat):aj):=NR (hg:aj) 1
  refine bL rfl (bE (gv (bu rfl ?_)))
  show ww
  refine jt ⟨_,rfl,?_⟩
  by_cases h3:way=2
  .refine bS (nM h3) (bC (e_tuple (l_cons ?_)))
   show ww
   refine bY 704 ?_
   show ww
   refine bR ?_
   show ww
   refine mq ?_
   rw[hj]
   show ww
   refine(ih hg (Nat.lt_succ_self _) (by lia) (by lia) M1.at_ λt vI a_ dt zG M2=>?_).less (by lia)
   show ww
   exact⟨t2 (n:=2) (by decide),q (.ng t) vI a_ (Nat.succ_le_succ dt) (by lia) (M1.two (a:=turn) M2)⟩
  .refine bL (nJ h3) (bE (bC (e_tuple (l_cons (bh (gm ?_))))))
   show ww
   refine⟨t2 (n:=2) (by decide),bR ?_⟩
   show ww
   refine mq ?_
   have w3:3<=way:=Nat.lt_of_le_of_ne (Nat.le_of_not_lt h2) λe=>h3 e.symm
   rw[show((way:Nat):aj) - 3=((way - 3:Nat):aj) from(FU w3).symm]
   have wl:way - 3<2:=Nat.sub_lt_left_of_lt_add w3 XD
   refine g9 (.lst _) (λω ω=>rfl) (gf _) (by decide) (show([kY true,kY false].map AV.str)[((way - 3:Nat):aj).toNat]? =some (.str (kY (way - 3==0))) from ?_) ?_
   .rw[kp]
    rcases(by lia:way - 3=0\/way - 3=1) with e |e<;>rw[e]<;>rfl
   refine dP ((way - 3==0)) λo=>?_
   refine l_cons ?_
   refine bY 704 ?_
   show ww
   refine bR ?_
   show ww
   refine mq ?_
   rw[hj]
   show ww
   refine(ih hg (Nat.lt_succ_self _) (by lia) (by lia) M1.at_ λt vI a_ dt zG M2=>?_).less (by lia)
   refine l_cons ?_
   refine bY 704 ?_
   show ww
   refine(ih 0 (Nat.succ_pos _) (by decide) (by lia) M2.at_ λrI Jo cn MD aao M3=>?_).less (by lia)
   show ww
   have KR:=(M1.two (a:=turn) M2).two (a:=turn) M3
   cases o with
   |true=>exact⟨t2 (n:=3) (by decide),q (.ad t rI) Jo cn (Nat.succ_le_succ (Nat.max_le.mpr ⟨dt,Nat.le_trans MD (Nat.zero_le _)⟩)) (by lia) KR⟩
   |false=>exact⟨t2 (n:=3) (by decide),q (.ml t rI) Jo cn (Nat.succ_le_succ (Nat.max_le.mpr ⟨dt,Nat.le_trans MD (Nat.zero_le _)⟩)) (by lia) KR⟩
end
section
noncomputable def eW(M:Nat)(t:aF):ae Nat:=(c7 M).map λk=>t.ev M (gI M k)
noncomputable abbrev vg(M:Nat)(t:aF):AV:= .lst ((eW M t).map am)
theorem jG(M:Nat)(t:aF):(eW M t).length=M:=by unfold eW;rw[ar,m_]
theorem uQ{t:aF}{x:Nat}(h:(eW M t)[i]? =some x):i<M/\x=t.ev M (gI M i):=by
 unfold eW at h
 rw[cP] at h
 obtain⟨k,hk,rfl⟩:=dA.mp h
 obtain⟨h1,h2⟩:=cV.mp hk
 rw[ae.getElem_range] at h2
 rw[m_] at h1
 exact⟨h1,by rw[h2]⟩
theorem yj(M:Nat)(t:aF)(h:i<M):(eW M t)[i]? =some (t.ev M (gI M i)):=by
 unfold eW
 rw[cP,ae.getElem?_range h];rfl
variable{n:Nat}{af:Env}{m:au}{σ aw σ':ah}{Q:AV->ah->Prop}{cs:cH}
theorem Iy(hc:o7 cs): ∀(d:Nat) (t:aF) {σ:ah} {Q:AV->ah->Prop},t.dep<d->Q (am (bN cs t)) σ->aT (3*d) (.ref 714) [t.av,wc cs] σ Q:=by
 intro d
 induction d with
 |zero=>intro t σ Q hd;exact ax hd (Nat.not_lt_zero _)
 |succ d ih=>
  intro t σ Q hd q
  show aT (3*d+3) _ _ _ _
  have et:=Tree.i6 Lf.s t
  have tl:=jj Lf.s t
  rw[show t.av= .tup (.str (t.op Lf.s)::t.kids.map aF.av) from et]
  have kz:t.kids.length<1000:=Nat.lt_of_le_of_lt (oz t) (by decide)
  refine eL (S "term") (S "costs") ?_
  intro Lo ev mv
  refine bC (bR (dF (λω=>rfl) ?_))
  show ww
  refine⟨_,oY (.ca _),dI,?_⟩
  refine l_cons (bh ?_)
  show ww
  refine dC (λω ω=>rfl) (c_ _) (t1 tl) rfl ?_
  show ww
  refine on ef rfl (.ca _) hc.nd ?_
  have eg:((aX (t.op Lf.s) cs).map am).getD (.int 1)=am (gb cs (t.op Lf.s)):=by unfold gb;cases aX (t.op Lf.s) cs<;>rfl
  rw[eg]
  refine bq (.builtin "sum") ?_
  refine l_cons (o6 (f:=aF.av) (g:=λu=>am (bN cs u)) (l:=t.kids) [(S "costs",Lo+1)] (t2 kz) (w_seq (hG (lo:=some 1) (hi:=none) (.int 1 _ _) .none ?_)))
  show ww
  refine jD (Nat.succ_le_succ (Nat.zero_le _)) (t2 tl) ⟨_,.tup _,rfl,λC u hu R hR=>aN ⟨rfl,?_⟩,?_⟩
  .refine bY 714 ?_
   show ww
   exact ih u (Nat.lt_of_lt_of_le (Tree.nG hu) (Nat.le_of_lt_succ hd)) ⟨rfl,hR⟩
  show ww
  have e1:(t.kids.map λu=>am (bN cs u))=((t.kids.map (bN cs)).map λk:Nat=>(k:aj)).map .int:=by rw[cQ,cQ];rfl
  rw[e1]
  refine vB (by rw[ar,ar];exact t2 kz) (gp ?_)
  rw[x9,show((gb cs (t.op Lf.s):Nat):aj)+((t.kids.map (bN cs)).sum:Nat)=(bN cs t:Nat) from by rw[sx,kq]]
  exact q
theorem Vi{i:Lf}(h:i≠ .vx): ∃rest,Ng (S "012345") i.s 0 (S "012345").length 1=i.dig::rest:=by
 cases i with
 |vx=>exact ax rfl h
 |d0=>exact⟨[],by decide+kernel⟩
 |d1=>exact⟨[],by decide+kernel⟩
 |d2=>exact⟨[],by decide+kernel⟩
 |d3=>exact⟨[],by decide+kernel⟩
 |d4=>exact⟨[],by decide+kernel⟩
theorem Iz(h0:0<M)(hM:M<5): ∀(d:Nat) (t:aF) {σ:ah} {Q:AV->ah->Prop},t.dep<d->Q (vg M t) σ->aT (3*d) (.ref 709) [t.av,am M] σ Q:=by
 have kj:(M:aj)≠0:=λe=>by have:M=0:=rX e;lia
 have zM:M<1000:=Nat.lt_trans hM (by decide)
 intro d
 induction d with
 |zero=>intro t σ Q hd;exact ax hd (Nat.not_lt_zero _)
 |succ d ih=>
  intro t σ Q hd q
  show aT (3*d+3) _ _ _ _
  have et:=Tree.i6 Lf.s t
  have tl:=jj Lf.s t
  have kz:t.kids.length<1000:=Nat.lt_of_le_of_lt (oz t) (by decide)
  rw[show t.av= .tup (.str (t.op Lf.s)::t.kids.map aF.av) from et]
  refine mi ?_
  refine eL (S "term") (S "many") ?_
  intro Lo ev mv
  refine gv (bu rfl ?_)
  refine bq (.builtin "len") ?_
  show ww
  refine dL (.inl (.tup _)) (t1 tl) ?_
  show ww
  refine jt ⟨_,rfl,?_⟩
  by_cases o8: ∃i,t= .lf i
  .obtain⟨i,rfl⟩:=o8
   refine bS rfl (bC (o6 (f:=am) (g:=λk=>am (gI M k i)) (l:=c7 M) [(S "term",Lo+1),(S "many",Lo+2)] (by rw[m_];exact t2 zM) (w_of ?_)))
   refine bq (.type "range") ?_
   show ww
   refine uU λrg kZ u v km=>?_
   refine⟨_,uI ⟨rg,kZ,u,v,rfl,bB _ _ _⟩ (by decide) (gf M) (by lia),?_,λC k hk R hR=>aN ⟨rfl,oH (bu rfl (bh ?_))⟩,?_⟩
   .rw[AL,kp,ae.range_eq_range']
    exact xL M 0
   .show ww
    refine dC (λω ω=>rfl) (c_ _) (t1 tl) rfl ?_
    show ww
    refine fW ⟨_,rfl,?_⟩
    by_cases hi:i= .vx
    .subst hi
     refine bS (decide_eq_true rfl) ?_
     show ww
     exact⟨rfl,hR⟩
    .have hx:i.s≠S "x":=λe=>hi (by cases i<;>first |rfl |exact ax e (by decide))
     refine bL (cu hx) (bR (dF (λω=>rfl) ?_))
     show ww
     refine⟨_,S_,dI,?_⟩
     refine l_cons (bh ?_)
     show ww
     refine dC (λω ω=>rfl) (c_ _) (t1 tl) rfl ?_
     show ww
     obtain⟨rest,hr⟩:=Vi hi
     refine Tx hr ?_
     show ww
     refine jM kj ?_
     rw[oF,show i.dig%M=gI M k i from by cases i<;>first |rfl |exact Nat.zero_mod _ |exact ax rfl hi]
     exact⟨rfl,hR⟩
   .refine⟨σ,RM km,?_⟩
    have e:vg M (.lf i)= .lst ((c7 M).map λk=>am (gI M k i)):=by
     show AV.lst (((c7 M).map _).map am)=_
     rw[cQ];rfl
    rw[<- e];exact q
  have mW:t.kids.length≠0:=λe=>o8 (by cases t with |lf i=>exact⟨i,rfl⟩ |ng a=>cases e |ad a b=>cases e |ml a b=>cases e)
  refine bL (nJ (b:=1) (by rw[gh,ar];exactλe=>mW (Nat.succ.inj e))) (bE ?_)
  refine oO [(S "many",Lo+2)] (w_seq (hG (lo:=some 1) (hi:=none) (.int 1 _ _) .none ?_))
  show ww
  refine jD (Nat.succ_le_succ (Nat.zero_le _)) (t2 tl) ⟨_,.tup _,qj (L:=t.kids) (f:=aF.av) (vg M) (t2 kz) (λC u hu=>?_) ?_⟩
  .refine aN ?_
   refine bY 709 ?_
   show ww
   exact ih u (Nat.lt_of_lt_of_le (Tree.nG hu) (Nat.le_of_lt_succ hd)) ⟨rfl,rfl⟩
  have w5:(t.kids.map (vg M)).length<2^63:=t1 (by rw[ar];exact kz)
  cases t with
  |lf i=>exact ax ⟨i,rfl⟩ o8
  |ng a=>
   refine te (bu rfl (bh ?_))
   show ww
   refine dC (λω ω=>rfl) (c_ _) (t1 tl) rfl ?_
   show ww
   refine fW ⟨_,rfl,decide_eq_true rfl,bC (o6 (f:=am) (g:=λv=>am ((M - v)%M)) (l:=eW M a) [(S "many",Lo+2)] (by rw[jG];exact t2 zM) (w_seq (bh ?_)))⟩
   show ww
   refine g9 (.lst _) (λω ω=>rfl) (c_ _) w5 rfl ⟨_,.lst _,rfl,λC v hv R hR=>aN ⟨rfl,bR (bR ?_)⟩,⟨σ,.refl _,?_⟩⟩
   .show ww
    refine mq ?_
    show ww
    refine jM kj ?_
    obtain⟨i,hi⟩:=ae.getElem?_of_mem hv
    obtain⟨h1,h2⟩:=uQ hi
    have ZW:v<M:=h2▸nO h1 a
    rw[<- FU (Nat.le_of_lt ZW),oF]
    exact⟨rfl,hR⟩
   .have e:vg M (.ng a)= .lst ((eW M a).map λv=>am ((M - v)%M)):=by
     show AV.lst (((c7 M).map _).map am)=AV.lst (((c7 M).map _).map _)
     rw[cQ,cQ];rfl
    rw[<- e];exact q
  |ad a b=>
   refine eM (bu rfl (bh ?_))
   show ww
   refine dC (λω ω=>rfl) (c_ _) (t1 tl) rfl ?_
   show ww
   refine fW ⟨_,rfl,cu (show S "add"≠S "neg" by decide),bC (fG [(S "term",Lo+1),(S "many",Lo+2)] (w_zip (λω=>rfl) (ut (v:= .type "zip") ⟨rfl,?_⟩ (by kernel_rfl) rfl)))⟩
   refine l_cons (bh ?_)
   show ww
   refine g9 (.lst _) (λω ω=>rfl) (c_ _) w5 rfl (l_cons (bh ?_))
   show ww
   refine g9 (.lst _) (λω ω=>rfl) (by decide) w5 rfl ?_
   show ww
   refine⟨_,_,_,_,rfl,.lst _ _,λi acc σ'=>σ'=σ/\acc=((eW M (.ad a b)).take i).map am,⟨rfl,rfl⟩,?_,?_⟩
   .intro C i x acc σ' hi I ce cm Jv
    obtain⟨e1,e2⟩:=I
    subst e1 e2
    obtain⟨x1,x2,w6,w7,rfl⟩:=yi hi
    rw[cP] at w6 w7
    obtain⟨v1,ER,rfl⟩:=dA.mp w6
    obtain⟨v2,rD,rfl⟩:=dA.mp w7
    obtain⟨i1,rfl⟩:=uQ ER
    obtain⟨_,rfl⟩:=uQ rD
    refine kC (.tup _) (eR (aN (eR (aN (kH (iV (bS rfl (oH (bu rfl (bh ?_))))))))))
    show ww
    refine dC (λω ω=>rfl) (c_ _) (t1 tl) rfl ?_
    show ww
    refine fW ⟨_,rfl,bS (decide_eq_true rfl) (bR (bR ?_))⟩
    show ww
    refine gp ?_
    show ww
    refine jM kj ?_
    rw[<- kq,oF]
    refine⟨?_,rfl,?_⟩
    .rw[ar,jA,jG];exact t3 (Nat.lt_of_le_of_lt (Nat.min_le_right _ _) zM)
    .rw[fh,yj M (.ad a b) i1,bX];rfl
   .intro acc σ' I
    obtain⟨e1,e2⟩:=I
    subst e1 e2
    refine⟨_,.refl _,?_⟩
    rw[yh (by rw[ar,ar,jG,jG]),ar,jG,rO (by rw[jG];exact Nat.le_refl _)]
    exact q
  |ml a b=>
   refine eM (bu rfl (bh ?_))
   show ww
   refine dC (λω ω=>rfl) (c_ _) (t1 tl) rfl ?_
   show ww
   refine fW ⟨_,rfl,cu (show S "mul"≠S "neg" by decide),bC (fG [(S "term",Lo+1),(S "many",Lo+2)] (w_zip (λω=>rfl) (ut (v:= .type "zip") ⟨rfl,?_⟩ (by kernel_rfl) rfl)))⟩
   refine l_cons (bh ?_)
   show ww
   refine g9 (.lst _) (λω ω=>rfl) (c_ _) w5 rfl (l_cons (bh ?_))
   show ww
   refine g9 (.lst _) (λω ω=>rfl) (by decide) w5 rfl ?_
   show ww
   refine⟨_,_,_,_,rfl,.lst _ _,λi acc σ'=>σ'=σ/\acc=((eW M (.ml a b)).take i).map am,⟨rfl,rfl⟩,?_,?_⟩
   .intro C i x acc σ' hi I ce cm Jv
    obtain⟨e1,e2⟩:=I
    subst e1 e2
    obtain⟨x1,x2,w6,w7,rfl⟩:=yi hi
    rw[cP] at w6 w7
    obtain⟨v1,ER,rfl⟩:=dA.mp w6
    obtain⟨v2,rD,rfl⟩:=dA.mp w7
    obtain⟨i1,rfl⟩:=uQ ER
    obtain⟨_,rfl⟩:=uQ rD
    refine kC (.tup _) (eR (aN (eR (aN (kH (iV (bS rfl (oH (bu rfl (bh ?_))))))))))
    show ww
    refine dC (λω ω=>rfl) (c_ _) (t1 tl) rfl ?_
    show ww
    refine fW ⟨_,rfl,bL (cu (show S "mul"≠S "add" by decide)) (bR (bR ?_))⟩
    show ww
    refine sQ (J8 (Nat.lt_trans (nO i1 a) hM) (Nat.lt_trans (nO i1 b) hM)) ?_
    show ww
    refine jM kj ?_
    rw[<- FF,oF]
    refine⟨?_,rfl,?_⟩
    .rw[ar,jA,jG];exact t3 (Nat.lt_of_le_of_lt (Nat.min_le_right _ _) zM)
    .rw[fh,yj M (.ml a b) i1,bX];rfl
   .intro acc σ' I
    obtain⟨e1,e2⟩:=I
    subst e1 e2
    refine⟨_,.refl _,?_⟩
    rw[yh (by rw[ar,ar,jG,jG]),ar,jG,rO (by rw[jG];exact Nat.le_refl _)]
    exact q
end
section
theorem IA: ∀{l:ae aj},(∀i∈l,0<=i)->0<=jw l
 |[],_=>c_ _
 |a::r,h=>aj.add_nonneg (h a (.head _)) (IA λi hi=>h i (.tail _ hi))
theorem HS.mk'{h:HA}{D:HD}{σ σ':ah}{fd:Addr}(T:HS h D σ)(k:Mk fd o σ σ')(n: ¬ij h D fd):HS h D σ':=T.keep λc hc x e=>k.keep c x e λq=>n (q▸hc)
noncomputable def pick(M f s k:Nat):bV:=(jH M).getD ((f+(1+s)*k)%13) ⟨S "",.lf .a,.lf .a⟩
noncomputable def nP(M f s:Nat):ae bV:=[pick M f s 0,pick M f s 1,pick M f s 2]
theorem w8(M:Nat):(jH M).length=13:=rfl
theorem BC(M f s k:Nat):pick M f s k∈jH M:=by
 have h:(f+(1+s)*k)%13<(jH M).length:=Nat.mod_lt _ (by decide)
 unfold pick
 rw[ip,cL h]
 exact gK h
theorem SD(hM:M=2\/M=3\/M=4){f s:Nat}(hf:f<13)(hs:s<4):((nP M f s).map bV.name).Nodup:=by
 refine Be ?_
 have:(qH 13 λf=>qH 4 λs=>yz ((nP M f s).map bV.name))=true:=by
  rcases hM with rfl |rfl |rfl<;>decide+kernel
 exact sj (sj this hf) hs
theorem QQ(hM:M=2\/M=3\/M=4)(f s:Nat): ∀R∈nP M f s,oP M R:=λR hR=>by
 rcases aY.mp hR with rfl |hR
 .exact B8 hM (BC ..)
 .rcases aY.mp hR with rfl |hR
  .exact B8 hM (BC ..)
  .rw[aW.mp hR];exact B8 hM (BC ..)
theorem SF{f s:Nat}(h:i<3):(nP M f s)[i]? =some (pick M f s i):=by
 cases i with
 |zero=>rfl
 |succ i=>cases i with
  |zero=>rfl
  |succ i=>cases i with
   |zero=>rfl
   |succ i=>exact ax h (Nat.not_lt_of_le (Nat.le_add_left 3 i))
theorem Uf(k:Nat):ym (am k):=trivial
theorem sK: ∀t:aF,t.sz+1<=2^(t.dep+1)
 | .lf i=>Nat.le_refl _
 | .ng a=>by
  have:=sK a
  show a.sz+1+1<=2^(a.dep+1+1)
  rw[Nat.pow_succ,Nat.mul_two];exact Nat.add_le_add this Nat.one_le_two_pow
 | .ad a b=>by
  have h1:=Nat.le_trans (sK a) (Nat.pow_le_pow_right (by decide) (Nat.succ_le_succ (Nat.le_max_left a.dep b.dep)))
  have h2:=Nat.le_trans (sK b) (Nat.pow_le_pow_right (by decide) (Nat.succ_le_succ (Nat.le_max_right a.dep b.dep)))
  show a.sz+b.sz+1+1<=2^(max a.dep b.dep+1+1)
  rw[Nat.pow_succ,Nat.mul_two];exact Nat.le_trans (Nat.le_of_eq (Nat.add_add_add_comm a.sz 1 b.sz 1).symm) (Nat.add_le_add h1 h2)
 | .ml a b=>by
  have h1:=Nat.le_trans (sK a) (Nat.pow_le_pow_right (by decide) (Nat.succ_le_succ (Nat.le_max_left a.dep b.dep)))
  have h2:=Nat.le_trans (sK b) (Nat.pow_le_pow_right (by decide) (Nat.succ_le_succ (Nat.le_max_right a.dep b.dep)))
  show a.sz+b.sz+1+1<=2^(max a.dep b.dep+1+1)
  rw[Nat.pow_succ,Nat.mul_two];exact Nat.le_trans (Nat.le_of_eq (Nat.add_add_add_comm a.sz 1 b.sz 1).symm) (Nat.add_le_add h1 h2)
theorem HL{t u:aF}(h:ej M t u):eW M t=eW M u:=pX λk hk=>h k (gL.mp hk)
theorem Vj{K:Nat}{D:HD}{ts:ae aF}(O:bU M K D ts): ∀(b j:Nat),j<b->j<D.nodes.length->(ts.getD j t0).dep<=j:=by
 intro b
 induction b with
 |zero=>intro j h;exact ax h (Nat.not_lt_zero _)
 |succ b ih=>
  intro j hb hj
  have ht:=cL hj
  generalize D.nodes[j]=t at ht
  obtain⟨tk,tt⟩:=O.tree j t ht
  rw[ip,tt]
  show(f9 ts t).dep<=j
  have K: ∀v∈(f9 ts t).kids,v.dep<j:=λv hv=>by
   rw[nH] at hv
   obtain⟨a,ha,rfl⟩:=aU.mp hv
   exact Nat.lt_of_le_of_lt (ih a (Nat.lt_of_lt_of_le (tk a ha) (Nat.le_of_lt_succ hb)) (Nat.lt_trans (tk a ha) hj)) (tk a ha)
  generalize f9 ts t=x at K
  cases x with
  |lf i=>exact Nat.zero_le _
  |ng a=>exact K a (.head _)
  |ad a b=>exact Nat.succ_le_of_lt (Nat.max_lt.mpr ⟨K a (.head _),K b (.tail _ (.head _))⟩)
  |ml a b=>exact Nat.succ_le_of_lt (Nat.max_lt.mpr ⟨K a (.head _),K b (.tail _ (.head _))⟩)
theorem Ug{cells:ae aj}{tn bl:Nat}{cs:cH}{R:RT}:jL cells tn bl≠mK cs R:=λe=>by
 unfold jL mK at e
 injection e with e
 cases R with
 |nil=>cases e
 |cons p r=>exact nomatch (Prod.mk.inj (eC e).1).1
noncomputable abbrev w9:ae Str:=[S "add",S "mul",S "neg"]
structure nX(cs:cH)(i:Nat):Prop where
 nd:(cs.map (·.1)).Nodup
 mem: ∀p∈cs,p.1∈w9.take i
 two: ∀p∈cs,2<=p.2/\p.2<=3
 len:cs.length<=i
theorem nX.skip{cs:cH}(c:nX cs i):nX cs (i+1):=⟨c.nd,λp hp=>by rw[fh];exact gc _ (c.mem p hp),c.two,Nat.le_succ_of_le c.len⟩
theorem Vk: ∀{i:Nat} {x:Str},w9[i]? =some x->x∉w9.take i
 |0,x,h,q=>by cases q
 |1,x,h,q=>by
  have e:x=S "mul":=(aB.some.inj h).symm
  have q:x=S "add":=aW.mp q
  exact ax (e.symm.trans q) (by decide)
 |2,x,h,q=>by
  have e:x=S "neg":=(aB.some.inj h).symm
  rcases aY.mp q with q |q
  .exact ax (e.symm.trans q) (by decide)
  .exact ax (e.symm.trans (aW.mp q)) (by decide)
 |_+3,x,h,q=>by cases h
theorem nX.add{cs:cH}{v:Nat}(c:nX cs i)(hx:w9[i]? =some x)(h2:2<=v/\v<=3):nX (cs++[(x,v)]) (i+1):=by
 refine⟨?_,λp hp=>?_,λp hp=>?_,by rw[bQ];exact Nat.succ_le_succ c.len⟩
 .rw[bX]
  refine ot.mpr ⟨c.nd,by simp,λa ha b hb e=>?_⟩
  have hb:b=x:=aW.mp hb
  obtain⟨p,hp,rfl⟩:=aU.mp ha
  exact Vk hx (hb▸e▸c.mem p hp)
 .rw[fh,hx]
  rcases cy.mp hp with hp |hp
  .exact gc _ (c.mem p hp)
  .rw[aW.mp hp];exact iN _ (.head _)
 .rcases cy.mp hp with hp |hp
  .exact c.two p hp
  .rw[aW.mp hp];exact h2
theorem nX.ok{cs:cH}(c:nX cs i):o7 cs:=by
 have h: ∀x,gb cs x=1\/(2<=gb cs x/\gb cs x<=3):=λx=>by
  unfold gb
  cases e:aX x cs with
  |none=>exact .inl rfl
  |some v=>exact .inr (c.two _ (eG e))
 exact⟨c.nd,λx=>by rcases h x with h |h<;>lia,λx=>by rcases h x with h |h<;>lia⟩
noncomputable abbrev wf(v:ae Nat):AV:= .lst (v.map am)
theorem yF(v:ae Nat): ∀a∈v.map am,aM 8 a:=λa ha=>by obtain⟨k,_,rfl⟩:=aU.mp ha;exact .int _ _
structure VI(M:Nat)(D:HD)(ts:ae aF)(i:Nat)(V:ae (Nat×ae Nat)):Prop where
 nd:(V.map (·.1)).Nodup
 val: ∀p∈V,p.1<D.par.length/\p.2=eW M (ts.getD p.1 t0)
 all: ∀j,j<i-> ∃v,aX (aE D.par j) V=some v
theorem VI.len{D:HD}{ts:ae aF}{V:ae (Nat×ae Nat)}(v:VI M D ts i V):V.length<=D.par.length:=by
 have:=nt D.par.length v.nd λx hx=>by obtain⟨p,hp,rfl⟩:=aU.mp hx;exact(v.val p hp).1
 rwa [ar] at this
structure LV(m:au)(M:Nat)(h:HA)(c:CA)(cs:cH)(vd:Addr)(told:Nat):Prop where
 heap:m (S "heap")=some h.self
 many:m (S "many")=some (am M)
 ring:m (S "ring")=some (vc M)
 Z6:m (S "cheapest")=some c.self
 aaa:m (S "costs")=some (wc cs)
 values:m (S "values")=some (.raw (.ref vd))
 told:m (S "told")=some (am told)
variable{n:Nat}{af:Env}{m:au}{σ aw σ':ah}{Q:AV->ah->Prop}
theorem SG{σ:ah}{d:Addr}{o':AO}(h:σ d=none):fP (aA (aA σ d o) d o') d=σ:=by
 funext c
 by_cases e:c=d
 .rw[e,Bp,h]
 .rw[iY _ e,oQ _ _ e,oQ _ _ e]
theorem KU{told:Nat}{p1 p2 p3:Pos}(ht:m (S "told")=some (am told))(q:Q (J6 told) σ)(hl:true=qU af (S "told"):=by exact rfl):
  aQ n af (.Dict [some (.Constant (.str (S "x")) k p1)] [.Name (S "told") p2] p3) m σ Q:=by
 refine nQ (yy [(.Constant (.str (S "x")) k p1,.Name (S "told") p2)] rfl (λe=>nomatch e) (Nat.le_of_ble_eq_true rfl) λxd ZX=>oT (e_str (e_nm ?_ ht hl)))
 obtain⟨so,de⟩:=uj (f:=am) ef [(S "x",told)] [] (by show[S "x"].Nodup;decide)
 refine yS ⟨bB _ _ _,so,Nat.le_of_ble_eq_true rfl,_,_,.dict ((bB _ _ _).trans (congrArg (λx=>some (AO.dict x)) de)),?_⟩
 rw[SG ZX];exact q
theorem aab(hl:ns.length<=63):aT 203 (.ref 719) [.lst (ns.map .int)] σ λa ω=>a= .raw (.bool true):=by
 refine fC (S "script") ?_
 intro Lo ev mv
 refine oO [] (w_seq (hG (lo:=none) (hi:=some ((40:Nat):aj)) .none (.int 40 _ _) ?_))
 show ww
 refine Ta (j:=40) (.lst _) (by rw[ar];exact t2 (Nat.lt_of_le_of_lt hl (by decide))) ⟨_,.lst _,λi acc σ'=>σ'=σ/\acc=((ns.take 40).take i).map .int,⟨rfl,rfl⟩,?_,?_⟩
 .intro C i b acc σ' hi I
  obtain⟨e1,e2⟩:=I
  subst e1 e2
  rw[<- OQ,cP] at hi
  have fR:(ns.take 40).length<=40:=NG _ _
  revert hi fR
  refine dP (ns.take 40) λcells=>?_
  intro hi fR
  obtain⟨x,hx,rfl⟩:=dA.mp hi
  refine aN (iV (bS rfl ?_))
  refine bq (.type "int") ?_
  show ww
  refine VO ⟨?_,rfl,?_⟩
  .rw[ar,jA]
   exact t3 (Nat.lt_of_le_of_lt (Nat.min_le_right _ _) (Nat.lt_of_le_of_lt fR (by decide)))
  .rw[fh,hx,bX];rfl
 intro acc σ' I
 obtain⟨e1,e2⟩:=I
 subst e1 e2
 rw[<- OQ,ar,g8]
 have fR:(ns.take 40).length<=40:=NG _ _
 generalize ns.take 40=cells at fR
 clear hl
 refine cg (yy [(.Constant (.str (S "cells")) 0 ⟨0,0,0,0⟩,.Name (S "cells") _),(.Constant (.str (S "turn")) 0 ⟨0,0,0,0⟩,.Constant (.int 0) _ _),(.Constant (.str (S "blend")) 0 ⟨0,0,0,0⟩,_)] rfl (λe=>nomatch e) (Nat.le_of_ble_eq_true rfl) λfd kR=>?_)
 refine oT ?_
 show ww
 refine oT ?_
 show ww
 refine oT ?_
 show ww
 refine bq (.builtin "sum") ?_
 refine l_cons (o6 (f:= .int) (g:=λc=> .int ((if c<0 then -c else c).fmod 997)) (l:=cells) [] (t2 (Nat.lt_of_le_of_lt fR (by decide))) (w_seq ?_))
 show ww
 refine⟨_,.lst _,rfl,λC c ω R hR=>aN ⟨rfl,bR ?_⟩,?_⟩
 .refine bq (.builtin "abs") ?_
  show ww
  refine VP ?_
  show ww
  exact jM (by decide) ⟨rfl,hR⟩
 show ww
 have e1:(cells.map λc=>AV.int ((if c<0 then -c else c).fmod 997))=(cells.map λc=>(if c<0 then -c else c).fmod 997).map .int:=by rw[cQ];rfl
 rw[e1]
 have nn:0<=jw (cells.map λc=>(if c<0 then -c else c).fmod 997):=IA λi hi=>by
  obtain⟨c,_,rfl⟩:=aU.mp hi
  rw[Af _ (by decide)]
  exact Oz _ (by decide)
 refine vB (by rw[ar];exact t2 (Nat.lt_of_le_of_lt fR (by decide))) (yS ?_)
 obtain⟨dN,ME⟩:=Nh nn
 rw[ME]
 clear e1 nn ME
 obtain⟨so,de⟩:=uj (f:=id) ef (jQ cells 0 dN) [] (qI cells 0 dN)
 refine⟨bB _ _ _,so,Nat.le_of_ble_eq_true rfl,aN ?_⟩
 intro mv
 have h1:aA (aA σ' fd (.dict [])) fd (.dict (hU [] (aZ .str id (jQ cells 0 dN)))) fd=some (jL cells 0 dN):=by
  rw[bB];exact congrArg (λx=>some (AO.dict x)) de
 clear so de
 show ch _ _ _ _ (aA (aA σ' fd (.dict [])) fd (.dict (hU [] (aZ .str id (jQ cells 0 dN))))) _
 revert h1
 refine dP (aA (aA σ' fd (.dict [])) fd (.dict (hU [] (aZ .str id (jQ cells 0 dN))))) λaw=>?_
 intro h1
 clear kR σ'
 refine cg (bR ?_)
 show ww
 refine bY 697 ?_
 show ww
 refine(mn h1 fR (by decide) (wide:=3) (by decide) λd a_ hd M2=>gp ?_).less (by decide)
 rw[show(2:aj)+(d:aj)=((2+d:Nat):aj) from(kq 2 d).symm]
 have hM:2+d=2\/2+d=3\/2+d=4:=by lia
 revert hM
 refine dP (2+d) λM=>?_
 intro hM
 have h2:=M2.at_
 clear hd M2 h1
 refine aN ?_
 intro mv
 refine jW (sv rfl rfl rfl rfl rfl (e_tuple ?_))
 refine l_cons ?_
 refine bY 686 ?_
 show ww
 refine(U8 M ?_).less (by decide)
 refine l_cons ?_
 refine bY 469 ?_
 show ww
 refine(UQ λh cn T3 KV k3=>?_).less (by decide)
 have h3:=k3 _ _ h2
 have Du: ¬ij h HD.zero fd:=λo=>by rw[KV _ o] at h2;cases h2
 clear KV k3 h2
 show ww
 refine⟨t2 (n:=2) (by decide),_,_,rfl,?_⟩
 refine cg (zd 678 ?_)
 show ww
 refine⟨_,_,rfl,by kernel_rfl,rfl,?_⟩
 show ww
 refine(TU hM (aN ?_)).less (by decide)
 intro mv
 refine fb ?_
 refine bG 379 ?_
 show ww
 refine bI T3.at_ ?_
 refine l_cons ?_
 refine bY 704 ?_
 show ww
 refine(Ue hM fR 2 (by decide) (by decide) h3 λt Kc eO dt ht4 M4=>?_).less (by decide)
 have T4:=T3.mk' M4 Du
 have h4:=M4.at_
 show ww
 have ZY:t.sz<=7:=by
  have h1:=Nat.le_trans (sK t) (Nat.pow_le_pow_right (by decide) (Nat.succ_le_succ dt))
  have h2:(2:Nat)^3=8:=rfl
  lia
 refine(US (K:=0) (M:=M) (by decide) 3 t (Nat.lt_succ_of_le dt) T4 bU.zero (show 0+t.sz<=40 by lia) λk0 D5 ts5 eY T5 O5 F5 g5 z1 z2=>⟨Uf _,?_⟩).less (by decide)
 obtain⟨h5,th⟩:=F5 _ _ h4 Du
 have n5:D5.nodes.length<=19:=Nat.le_trans g5.len (show 0+t.sz<=19 by lia)
 clear M4 T3 h3 T4 h4 F5 g5 Du ZY dt z1 z2 t
 refine cg (e_tuple ?_)
 refine l_cons ?_
 refine bY 697 ?_
 show ww
 refine bq (.builtin "len") ?_
 show ww
 refine dL (.inr (.lst _)) (by rw[ar,w8];decide) ?_
 rw[ar,w8]
 show ww
 refine(mn h5 fR (by lia) (wide:=13) (by decide) λf wQ hf M6=>?_).less (by decide)
 have T6:=T5.mk' M6 th
 refine l_cons (bR ?_)
 show ww
 refine bY 697 ?_
 show ww
 refine(mn M6.at_ fR (by lia) (wide:=4) (by decide) λs lR hs M7=>gp ?_).less (by decide)
 rw[show(1:aj)+(s:aj)=((1+s:Nat):aj) from(kq 1 s).symm]
 have T7:=T6.mk' M7 th
 have h7:=M7.at_
 clear M6 M7 T5 h5 T6
 show ww
 refine⟨t2 (n:=2) (by decide),kC (.tup _) (eR (aN (eR (aN (kH ?_)))))⟩
 refine Xf ?_
 intro mv
 refine oO [(S "step",Lo+4),(S "rules",Lo+2),(S "first",Lo+3)] (w_of ?_)
 refine bq (.type "range") ?_
 show ww
 refine uU λrg kZ u v km=>⟨_,uI ⟨rg,kZ,u,v,rfl,bB _ _ _⟩ (by decide) (by decide) (by decide),λi acc σ'=>σ'=aA lR rg (.raw (gN 0 3 kZ u v))/\acc=((nP M f s).take i).map bV.av,⟨rfl,rfl⟩,?_,?_⟩
 .intro C i b acc σ' hi I ce cm Jv
  obtain⟨e1,e2⟩:=I
  subst e1 e2
  obtain⟨i3,rfl⟩:=zf hi
  refine aN (iV (bS rfl (bh ?_)))
  show ww
  refine bR (bR ?_)
  show ww
  refine bR ?_
  show ww
  have bs:PySem.Builtin.Int.intBits ((1+s:Nat):aj)<=10:=sq (by lia)
  have bi:PySem.Builtin.Int.intBits ((i:Nat):aj)<=10:=sq (by lia)
  refine sQ (xA bs bi (by decide)) (gp ?_)
  refine bq (.builtin "len") ?_
  show ww
  refine dL (.inr (.lst _)) (by rw[ar,w8];decide) ?_
  rw[show(r9 bV.av (jH M)).length=13 from(ar _).trans (w8 _),<- FF,<- kq]
  refine jM (by decide) ?_
  rw[oF]
  have hx:(f+(1+s)*i)%13<(jH M).length:=Nat.mod_lt _ (by decide)
  refine jK (.lst _) (λω ω=>rfl) (by rw[w8];decide) (x:=pick M f s i) (by unfold pick;rw[ip,cL hx];rfl) ⟨?_,rfl,?_⟩
  .rw[ar,jA];exact t3 (Nat.lt_of_le_of_lt (Nat.min_le_right _ _) (by decide:3<1000))
  .rw[fh,SF i3,bX];rfl
 intro acc EI I
 rw[show(jF 0 (3 - 0:aj).toNat).length=3 from rfl] at I
 obtain⟨e1,rfl⟩:=I
 have k8:dg lR EI:=e1▸iR km
 have T8:HS h D5 EI:=T7.keep λc ω o e=>k8 c o e
 have h8:=k8 _ _ h7
 rw[show(nP M f s).take 3=nP M f s from rfl]
 have pn:=SD hM hf hs
 have U3:(nP M f s).length=3:=rfl
 have UR:=QQ hM f s
 revert pn U3 UR
 refine dP (nP M f s) λrs=>?_
 intro pn U3 UR
 clear e1 km h7 T7 k8 hf hs
 refine jW (sv rfl rfl rfl rfl rfl (e_tuple ?_))
 refine l_cons (bh (gm ?_))
 show ww
 refine⟨t2 (n:=2) (by decide),?_⟩
 refine bY 697 ?_
 show ww
 refine(mn h8 fR (by lia) (wide:=2) (by decide) λwi ZG ZZ M9=>?_).less (by decide)
 have T9:=T8.mk' M9 th
 obtain⟨w,hw,MF⟩: ∃w,[S "together",S "turns"][wi]? =some w/\(w=S "together"\/w=S "turns"):=by
  rcases(by lia:wi=0\/wi=1) with rfl |rfl
  .exact⟨_,rfl,.inl rfl⟩
  .exact⟨_,rfl,.inr rfl⟩
 refine g9 (.lst _) (λω ω=>rfl) (gf _) (t1 (n:=2) (by decide)) (show([S "together",S "turns"].map AV.str)[((wi:Nat):aj).toNat]? =some (.str w) by rw[kp,cP,hw];rfl) ?_
 refine l_cons (bR ?_)
 show ww
 refine bY 697 ?_
 show ww
 refine(mn M9.at_ fR (by lia) (wide:=2) (by decide) λlp qQ w_ rJ=>gp ?_).less (by decide)
 rw[show(1:aj)+(lp:aj)=((1+lp:Nat):aj) from(kq 1 lp).symm]
 have MG:=T9.mk' rJ th
 have MH:=rJ.at_
 have w_:1+lp<=2:=by lia
 revert w_
 refine dP (1+lp) λbx=>?_
 intro w_
 clear M9 rJ T8 T9 h8 hw ZZ
 show ww
 refine⟨t2 (n:=2) (by decide),_,_,rfl,?_⟩
 refine cg ?_
 refine bG 624 ?_
 refine bY 627 ?_
 show ww
 refine nQ (yy [(.Constant (.str (S "order")) 0 ⟨0,0,0,0⟩,.Name (S "word") _),(.Constant (.str (S "nodes")) 0 ⟨0,0,0,0⟩,.Constant (.int 14) _ _),(.Constant (.str (S "rounds")) 0 ⟨0,0,0,0⟩,.Name (S "laps") _)] rfl (λe=>nomatch e) (Nat.le_of_ble_eq_true rfl) λod z6=>?_)
 refine oT ?_
 show ww
 refine oT ?_
 show ww
 refine oT ?_
 show ww
 obtain⟨so,de⟩:=uj (f:=id) ef (nW w bx) [] (sJ w bx)
 refine yS ⟨bB _ _ _,so,Nat.le_of_ble_eq_true rfl,_,_,.dict ((bB _ _ _).trans (congrArg (λx=>some (AO.dict x)) de)),?_⟩
 clear so de
 have w':dg qQ (fP (aA (aA qQ od (.dict [])) od (.dict (hU [] (aZ .str id (nW w bx))))) od):=λy o e=>(iY _ (bp e z6)).trans (aP (aP e (bp e z6)) (bp e z6))
 show iG _ _ _ _ (fP (aA (aA qQ od (.dict [])) od (.dict (hU [] (aZ .str id (nW w bx))))) od) _
 revert w'
 refine dP (fP (aA (aA qQ od (.dict [])) od (.dict (hU [] (aZ .str id (nW w bx))))) od) λXE=>?_
 intro w'
 have ES:HS h D5 XE:=MG.keep λc ω o e=>w' c o e
 have MI:=w' _ _ MH
 clear w' z6 MH MG
 show ww
 refine(Su ES U3 pn MF λa XF xa ET=>?_).less (by decide)
 have MJ:HS h D5 XF:=ES.keep λc ω o e=>ET c o e
 have z7:=ET _ _ MI
 refine bI xa.at_ ?_
 show ww
 have nd:fd≠a.d:=λe=>by have:=xa.at_;rw[<- e,z7] at this;cases this
 have nh:fd≠a.hi:=λe=>by obtain⟨l,hl,_⟩:=xa.hi;rw[<- e,z7] at hl;cases hl
 refine(Vg ⟨MJ,O5,n5,xa⟩ ⟨U3,UR,MF⟩ w_ λe K D ts KW he T O hn F=>?_).less (by decide)
 obtain⟨EU,bO⟩:=F _ _ z7 th nd nh
 clear nd nh xa MJ z7 ET ES MI F n5 O5 th U3 UR pn
 refine aN ?_
 intro mv
 refine eM (bu rfl ?_)
 show ww
 refine e_tuple ?_
 show ww
 refine⟨t2 (n:=3) (by decide),uh (BB [S "settled",S "nodes",S "rounds"]) (.str _ _) ⟨_,rfl,?_,?_⟩⟩
 .have:AV.str e∈[AV.str (S "settled"),.str (S "nodes"),.str (S "rounds")]:=by rcases he with rfl |rfl |rfl;exact .head _;exact .tail _ (.head _);exact .tail _ (.tail _ (.head _))
  show(!decide (AV.str e∈[AV.str (S "settled"),.str (S "nodes"),.str (S "rounds")]))=false
  rw[decide_eq_true this];rfl
 have ht:Kc+1+1+1+1<=30:=by lia
 generalize Kc+1+1+1+1=turn at ht EU
 clear he w_
 refine cg (nQ ?_)
 refine bq (.type "dict") ?_
 refine l_cons (fG [(S "feed",Lo+1)] (w_seq (e_tuple ?_)))
 show ww
 refine⟨t2 (n:=3) (by decide),_,.tup _,λi acc σ'=> ∃(cs:cH) (tn:Nat),acc=cs.map iq/\nX cs i/\tn<=30+2*i/\Mk fd (jL cells tn dN) KW σ',⟨[],turn,rfl,⟨fA,(λω h=>nomatch h),(λω h=>nomatch h),Nat.le_refl _⟩,ht,EU,λω ω e ω=>e⟩,?_,?_⟩
 .intro C i b acc σ' hi I ce cm Jv
  obtain⟨cs,tn,rfl,ci,EV,Mf⟩:=I
  have hi:(w9.map AV.str)[i]? =some b:=hi
  rw[cP] at hi
  obtain⟨x,hx,rfl⟩:=dA.mp hi
  have i3:i<3:=(cV.mp hx).1
  refine aN (nD (bu rfl ?_))
  refine bY 697 ?_
  show ww
  refine(mn Mf.at_ fR (by lia) (wide:=2) (by decide) λd1 fD hd1 MK=>?_).less (by decide)
  have KY:Mk fd (jL cells (tn+1) dN) KW fD:=Mf.two (a:=tn) MK
  show ww
  refine jt ⟨_,rfl,?_⟩
  by_cases hd:d1=1
  .refine bS (nM hd) (e_tuple ?_)
   refine l_cons ?_
   show ww
   refine bR ?_
   show ww
   refine bY 697 ?_
   show ww
   refine(mn MK.at_ fR (by lia) (wide:=2) (by decide) λd2 cn hd2 Z0=>gp ?_).less (by decide)
   rw[show(2:aj)+(d2:aj)=((2+d2:Nat):aj) from(kq 2 d2).symm]
   show ww
   refine⟨t2 (n:=2) (by decide),?_,cs++[(x,2+d2)],tn+1+1,by rw[bX];rfl,ci.add hx ⟨by lia,by lia⟩,by lia,KY.two (a:=tn) Z0⟩
   rw[ar];exact t3 (Nat.lt_of_le_of_lt ci.len (Nat.lt_trans i3 (by decide)))
  .exact bL (nJ hd) ⟨cs,tn+1,rfl,ci.skip,by lia,KY⟩
 intro acc aap I
 obtain⟨cs,tn,rfl,ci,EV,Mf⟩:=I
 have EV:tn<=36:=EV
 have EW:=ci.ok
 have EX:=T.mk' Mf bO
 have ML:=Mf.at_
 clear Mf T EU ht
 show ww
 have ec:cs.map iq=iW (aZ AV.str am cs):=by unfold iW aZ;rw[cQ];rfl
 rw[ec]
 obtain⟨so,de⟩:=uj (f:=am) ef cs [] ci.nd
 refine PP so (by rw[kD];exact t2 (Nat.lt_of_le_of_lt ci.len (by decide))) λcd wm=>⟨_,_,.dict ((bB _ _ _).trans (congrArg (λx=>some (AO.dict x)) de)),?_⟩
 rw[B6 wm]
 show fw _ _ _ (wc cs) _ _ _
 clear so de ec wm ci
 refine aN ?_
 intro mv
 have pU:D.nodes.length<=20:=Nat.le_trans hn (by decide)
 have EY:D.par.length<=20:=O.pt▸pU
 have kj:0<M:=by lia
 have tW:M<5:=by lia
 refine jW (SS rfl rfl rfl rfl rfl rfl (e_tuple ?_))
 refine l_cons ?_
 refine bY 257 ?_
 show ww
 refine(Ub EX O pU EW λc R wg oj hR hF EZ=>?_).less (by decide)
 have E0:HS h D wg:=EX.keep λy ω o e=>EZ y o e
 have xb:=EZ _ _ ML
 refine l_cons (uX λvd rK=>?_)
 have rM:dg wg (aA wg vd (.dict [])):=iR rK
 have z8:aA wg vd (.dict []) vd=some (.dict (aZ am wf [])):=bB _ _ _
 revert rM z8
 refine dP (aA wg vd (.dict [])) λaaq=>?_
 intro rM z8
 refine l_cons ?_
 refine bY 697 ?_
 show ww
 refine(mn (rM _ _ xb) fR (by lia) (wide:=M) kj λtold ti y0 xc=>?_).less (by decide)
 show ww
 refine⟨t2 (n:=3) (by decide),_,_,_,rfl,?_⟩
 have MM:vd≠fd:=λe=>by rw[e,xb] at rK;cases rK
 have MN:=xc.keep _ _ z8 MM
 have z9:HS h D ti:=(E0.keep λy ω o e=>rM y o e).mk' xc bO
 have MO:c.d≠fd:=λe=>by have:=oj.at_;rw[e,xb] at this;cases this
 have MP:c.r≠fd:=λe=>by have:=oj.r;rw[e,xb] at this;exact Ug (aB.some.inj this)
 have xe:je c h D cs R ti:=⟨xc.keep _ _ (rM _ _ oj.at_) MO,xc.keep _ _ (rM _ _ oj.r) MP,oj.ne,oj.bO⟩
 have Dw: ¬ij h D vd:=λo=>E0.held o rK
 have E2:c.d≠vd:=λe=>by have:=oj.at_;rw[e,rK] at this;cases this
 have E3:c.r≠vd:=λe=>by have:=oj.r;rw[e,rK] at this;cases this
 clear EZ rM xc z8 E0 oj xb rK ML EX MM MO MP bO
 have Z:=O.hz (Nat.le_trans pU (by decide))
 have aac:D.nodes.length<1000:=Nat.lt_of_le_of_lt hn (by decide)
 refine qr (λω ω=>rfl) (w_of ?_)
 refine bq (.type "range") ?_
 refine l_cons ?_
 refine bG 364 ?_
 show ww
 refine bI z9.at_ ?_
 show ww
 refine(Ib z9 Z ?_).less (by decide)
 show ww
 refine uU λrg kZ u v km=>?_
 have rN:dg ti (aA ti rg (.raw (gN 0 D.nodes.length kZ u v))):=iR km
 have z_:aA ti rg (.raw (gN 0 D.nodes.length kZ u v)) rg=some (.raw (gN 0 D.nodes.length kZ u v)):=bB _ _ _
 revert rN z_
 refine dP (aA ti rg (.raw (gN 0 D.nodes.length kZ u v))) λzh=>?_
 intro rN z_
 have Aa:HS h D zh:=z9.keep λy ω o e=>rN y o e
 have ko:je c h D cs R zh:=⟨rN _ _ xe.at_,rN _ _ xe.r,xe.ne,xe.bO⟩
 have MQ:=rN _ _ MN
 clear rN z9 xe MN km
 refine⟨_,uI ⟨rg,kZ,u,v,rfl,z_⟩ (by decide) (gf _) (by lia),λi m' σ'=>LV m' M h c cs vd told/\ ∃V,VI M D ts i V/\Mk vd (.dict (aZ am wf V)) zh σ',⟨⟨rfl,rfl,rfl,rfl,rfl,rfl,rfl⟩,[],⟨fA,(λω h=>nomatch h),(λω h=>nomatch h)⟩,MQ,λω ω e ω=>e⟩,?_,?_⟩
 .intro i b m1 aw hi I Qv
  obtain⟨⟨l1,l2,l3,l4,l5,l6,l7⟩,V,hV,Mv⟩:=I
  rw[AL,kp,show jF 0 D.nodes.length=(AU 0 D.nodes.length).map am from xL D.nodes.length 0,cP] at hi
  obtain⟨j,hj,rfl⟩:=dA.mp hi
  obtain⟨rp,zz⟩:=cV.mp hj
  rw[ae.getElem_range',Nat.zero_add,Nat.one_mul] at zz
  rw[Aw] at rp
  subst zz
  have il:i<D.par.length:=O.pt▸rp
  have T1:=Aa.mk' Mv Dw
  have C1:je c h D cs R aw:=⟨Mv.keep _ _ ko.at_ E2,Mv.keep _ _ ko.r E3,ko.ne,ko.bO⟩
  have v1:=Mv.at_
  have td:(ts.getD i t0).dep<20:=Nat.lt_of_le_of_lt (Vj O _ i (Nat.lt_succ_self i) rp) (Nat.lt_of_lt_of_le rp pU)
  obtain⟨w,hw,Z2⟩:=Ir O hF _ i (Nat.lt_succ_self i) il
  refine aN ?_
  intro mv
  refine jW (sv rfl rfl rfl rfl rfl (e_tuple ?_))
  refine l_cons ?_
  refine bG 179 ?_
  refine aS T1.at_ ?_
  refine bI T1.bk.at_ ?_
  show ww
  refine(TN T1.bk (Nat.le_trans pU (by decide)) O.tree rp ?_).less (by decide)
  refine l_cons ?_
  refine bG 393 ?_
  show ww
  refine bI T1.at_ ?_
  show ww
  refine(oN T1 Z il ?_).less (by decide)
  show ww
  refine⟨t2 (n:=2) (by decide),_,_,rfl,cg ?_⟩
  refine bY 709 ?_
  show ww
  refine(Iz kj tW 20 _ td (aN ?_)).less (by decide)
  intro mv
  refine eM (iZ (h9 (bu rfl (aQ.mono (Q:=λa a_=>a=wf (eW M (ts.getD i t0))/\ ∃V',VI M D ts (i+1) V'/\Mk vd (.dict (aZ am wf V')) zh a_) (dF (λω=>rfl) ?_) λa a_ e=>?_))))
  .show ww
   refine⟨_,F7 (.ref v1),dI,?_⟩
   show ww
   have ve:eW M (ts.getD (aE D.par i) t0)=eW M (ts.getD i t0):=HL (O.sound i il)
   refine Fr (f:=wf) (k:=aE D.par i) (v:=eW M (ts.getD i t0)) fq rfl rfl v1 hV.nd (t2 (Nat.lt_of_le_of_lt hV.len (Nat.lt_of_le_of_lt EY (by decide)))) (λx hx=>?_) λhx=>?_
   .have e:=(hV.val _ (eG hx)).2
    have e:x=eW M (ts.getD (aE D.par i) t0):=e
    refine⟨by rw[e,ve],V,⟨hV.nd,hV.val,λk hk=>?_⟩,Mv⟩
    rcases Nat.lt_succ_iff_lt_or_eq.mp hk with hk |rfl
    .exact hV.all k hk
    .exact⟨x,hx⟩
   .refine⟨rfl,bH (aE D.par i) (eW M (ts.getD i t0)) V,⟨kE hV.nd,λp hp=>?_,λk hk=>?_⟩,⟨bB _ _ _,λy o e ne=>aP (Mv.keep y o e ne) ne⟩⟩
    .rcases iT hp with rfl |hp
     .exact⟨kF O.down il,ve.symm⟩
     .exact hV.val p hp
    .rw[l9]
     by_cases q:aE D.par k=aE D.par i
     .rw[if_pos q];exact⟨_,rfl⟩
     .rw[aK q]
      rcases Nat.lt_succ_iff_lt_or_eq.mp hk with hk |rfl
      .exact hV.all k hk
      .exact ax rfl q
  obtain⟨rfl,V',Z4,Ab⟩:=e
  have T2:=Aa.mk' Ab Dw
  have C2:je c h D cs R a_:=⟨Ab.keep _ _ ko.at_ E2,Ab.keep _ _ ko.r E3,ko.ne,ko.bO⟩
  show ww
  refine uF (yF _) (yF _) ⟨_,rfl,?_⟩
  rewrite [decide_eq_true rfl]
  refine bL rfl (h9 (bu rfl (zd 683 ?_)))
  show ww
  refine⟨_,_,rfl,by kernel_rfl,rfl,?_⟩
  show ww
  refine KU l7 ?_
  show ww
  refine(Io y0 tW 20 (ts.getD i t0) td (bh ?_)).less (by decide)
  show ww
  refine jK (.lst _) (λω ω=>rfl) (by rw[jG];exact Nat.lt_trans tW (by decide)) (yj M _ y0) (vM ⟨_,rfl,?_⟩)
  refine bL (u8 rfl) (h9 (bu rfl ?_))
  refine bG 247 ?_
  show ww
  refine bI C2.at_ ?_
  show ww
  refine(Jk T2 O pU C2 hR il hw ?_).less (by decide)
  refine bY 714 ?_
  show ww
  refine(Iy EW 20 _ td (s9 ⟨_,rfl,?_⟩)).less (by decide)
  refine bL (Cm Z2) (jJ ⟨rfl,bE ⟨⟨l1,l2,l3,l4,l5,l6,l7⟩,V',Z4,Ab⟩⟩)
 intro m1 aw I
 rw[AL,kp,show jF 0 D.nodes.length=(AU 0 D.nodes.length).map am from xL D.nodes.length 0,ar,Aw] at I
 obtain⟨L,V,hV,Mv⟩:=I
 obtain⟨l1,l2,l3,l4,l5,l6,l7⟩:=L
 have T1:=Aa.mk' Mv Dw
 have C1:je c h D cs R aw:=⟨Mv.keep _ _ ko.at_ E2,Mv.keep _ _ ko.r E3,ko.ne,ko.bO⟩
 have v1:=Mv.at_
 clear Aa ko MQ z_ Mv
 refine qr (λω ω=>rfl) (w_seq ?_)
 refine bG 435 ?_
 show ww
 refine bI T1.at_ ?_
 show ww
 refine(A3 T1 Z ⟨_,.lst _,λi m' σ'=>LV m' M h c cs vd told/\σ'=aw,⟨⟨l1,l2,l3,l4,l5,l6,l7⟩,rfl⟩,?_,?_⟩).less (by decide)
 .intro i b m2 a_ hi I Qv
  obtain⟨⟨l1,l2,l3,l4,l5,l6,l7⟩,rfl⟩:=I
  rw[cP] at hi
  obtain⟨x,hx,rfl⟩:=dA.mp hi
  have w4:=rV.mp (cO hx)
  have xl:x<D.par.length:=gL.mp w4.1
  have rx:aE D.par x=x:=kt (k9 w4.2)
  obtain⟨w,hw,_⟩:=Ir O hF _ x (Nat.lt_succ_self x) xl
  have wd:w.dep<20:=Nat.lt_of_lt_of_le (hR.dep hw) EY
  have ew:ej M (ts.getD x t0) w:=by
   have:=hR.val _ (eG hw)
   rw[rx] at this;exact this
  obtain⟨v,hv⟩:=hV.all x (O.pt▸xl)
  rw[rx] at hv
  have ev:v=eW M w:=(hV.val _ (eG hv)).2.trans (HL ew)
  subst ev
  have aad:V.length<1000:=Nat.lt_of_le_of_lt hV.len (Nat.lt_of_le_of_lt EY (by decide))
  refine aN ?_
  intro mv
  refine cg ?_
  refine bG 254 ?_
  show ww
  refine bI C1.at_ ?_
  show ww
  refine(Vd T1 O pU C1 hR xl hw (aN ?_)).less (by decide)
  intro mv
  refine eM (iZ (h9 (bu rfl ?_)))
  refine bY 709 ?_
  show ww
  refine(Iz kj tW 20 _ wd (bh ?_)).less (by decide)
  show ww
  refine ge fq rfl (.ref v1) (λω ω=>rfl) hV.nd hv ?_
  refine uF (yF _) (yF _) ⟨_,rfl,?_⟩
  rewrite [decide_eq_true rfl]
  refine bL rfl (h9 (bu rfl ?_))
  refine bG 247 ?_
  show ww
  refine bI C1.at_ ?_
  show ww
  refine(Jk T1 O pU C1 hR xl hw ?_).less (by decide)
  refine bY 714 ?_
  show ww
  refine(Iy EW 20 _ wd (vM ⟨_,rfl,?_⟩)).less (by decide)
  refine bL (u8 rfl) (jJ ⟨rfl,?_⟩)
  refine eM (bu rfl (zd 683 ?_))
  show ww
  refine⟨_,_,rfl,by kernel_rfl,rfl,?_⟩
  show ww
  refine KU l7 ?_
  show ww
  refine(Io y0 tW 20 w wd (bh (bh ?_))).less (by decide)
  show ww
  refine ge fq rfl (.ref v1) (λω ω=>rfl) hV.nd hv ?_
  show ww
  refine jK (.lst _) (λω ω=>rfl) (by rw[jG];exact Nat.lt_trans tW (by decide)) (yj M _ y0) (vM ⟨_,rfl,u8 rfl,bE ⟨⟨l1,l2,l3,l4,l5,l6,l7⟩,rfl⟩⟩)
 .intro m2 a_ I
  exact bC (e_bool rfl)
end
noncomputable def XG(p:bg)(h:Heap)(v:Value):sM->Prop
 | .int i=> ∃t,v= .int i t
 | .list xs=> ∃a vs,v= .ref a/\h.get? a=some {cls:= .type "list",data:= .seq vs.toArray}/\WellAll p h vs xs
 |_=>True
theorem HM{d:sM}(k:Well p h v d):XG p h v d:=by
 cases k with
 |int i t=>exact⟨t,rfl⟩
 |list a b=>exact⟨_,_,rfl,a,b⟩
 |_=>exact trivial
theorem SH{R:WRecords}{d:sM}(k:Well p h v d)(hd:WShape.has R d .int=true): ∃i t,v= .int i t:=by
 have k:=HM k
 cases d with
 |int i=>exact⟨i,k⟩
 |_=>exact ax hd Bool.false_ne_true
theorem Vl{R:WRecords}: ∀{xs:ae sM} {vs:ae Value},WellAll p h vs xs->(∀x∈xs,WShape.has R x .int=true)-> ∃ns:ae aj,ns.length=xs.length/\RepL p h.get? (ns.map .int) vs:=by
 intro xs
 induction xs with
 |nil=>intro vs r _;cases r;exact⟨[],rfl,.nil⟩
 |cons x xs ih=>
  intro vs r hx
  cases r with
  |cons k r=>
   obtain⟨ns,e⟩:=ih r λx m=>hx x (.tail _ m)
   obtain⟨i,t,q⟩:=SH k (hx _ (.head _))
   subst q
   exact⟨i::ns,congrArg Nat.succ e.1,.cons (.int i t) e.2⟩
theorem SK{x:sM}(r:WellAll p h vs [x]){C:Prop}(f: ∀v,vs=[v]->Well p h v x->C):C:=by
 cases r with
 |cons k r=>cases r;exact f _ rfl k
set_option tactic.hygienic true in
theorem Uh{w:World}{args:ae sM}{eW:ae Value}(ph:PySem.Challenge.rw_pq0098_01.row.toRowW.claim.pre args=true)(rt:WellAll w.params h eW args){C:Prop}
  (k: ∀(ns:ae aj) v,eW=[v]->ns.length<=63->RepV w.params h.get? (.lst (ns.map .int)) v->C):C:=by
 obtain⟨h1,h2⟩:=pre_splitW ph
 obtain⟨d,r,rfl,h3,h4⟩:=hasAllW_cons h1
 obtain rfl:=hasAllW_nil h4
 obtain⟨xs,rfl,h5⟩:=hasW_list h3
 have hz:xs.length<=63:=by
  w_cond h2
  rename_i h6 _
  exact lW.mp (uq.mp h6)
 refine SK rt λv e w1=>?_
 obtain⟨a,vs,e2,ha,wl⟩:=HM w1
 obtain⟨ns,hn,rr⟩:=Vl wl (hasItemsW_at h5)
 exact k ns v e (hn▸hz) (e2▸ .lst ha (by rw[ae.toList_toArray];exact rr))
theorem aae(E4: ∀{σ:ah} {ns:ae aj} (hl:ns.length<=63),aT 203 (.ref 719) [.lst (ns.map .int)] σ λa ω=>a= .raw (.bool true)):qA G:=λns v hz r=>by
 refine lV (E4 hz callerA (λω=>none) G.gQ.heap.get? G.gQ _ ⟨rfl,by decide+kernel,by decide+kernel⟩
  ⟨⟨_,_,_,rfl⟩,λω ω e=>e,λω ω e=>nos e,λω ω e=>e,λω ω e=>nos e,λω e=>ax rfl e,λω e=>ax rfl e,λω e=>ax rfl e⟩ (.cons r .nil)) λr s' q=>?_
 obtain⟨P',σ',a,v,rfl,hP,I,ra,rfl⟩:=q
 cases ra
 obtain⟨h,t,dr,es⟩:=I.same
 exact⟨h,t,dr,rfl,es,I.keep⟩
theorem walk(E4:qA G):
  WalkO hd.vw hd.lo (XL hd.vw hd.lv) (kHook hd.heap_39 hd.keep hd.keep_ok).says PySem.Challenge.rw_pq0098_01.row.toRowW (hd.dr (hd.q 38)) [] (λf vs=>PySem.call f vs):=by
 intro w gQ aH mg mb Gr Y fa o pm cd doc dV kV ho hf wm hD tQ hg args eW as ph aar hrd rt kQ
 have KX:=kIn_of Y
 have e0:(hd.dr (hd.q 38)).name=Str.ofString "law":=by kernel_rfl
 have e1:nsIn (hd.heap_39 w.params) lX (Str.ofString "law")=some (some (.ref 719)):=by kernel_rfl
 have e2:fa=719:=by
  have:=(mg_of KX Gr.T.g e1).symm.trans (e0▸tQ)
  injection this with x;injection x with x;exact x.symm
 subst e2
 refine Uh ph rt λns v ev hz rv=>?_
 subst ev
 have e3:(hd.heap_39 w.params).lookup 2=some (hd.x2 w.params):=by kernel_rfl
 refine enter_call (lV (Ui E4 ⟨_,w,aH,_,KX _ _ e3⟩ ⟨KX,_,_,_,_,topRead_of Gr.T⟩ ns _ hz rv) λr s' q=>?_)
 obtain⟨h,t,dr,rfl,es,keep⟩:=q
 refine⟨.inl ⟨_,_,_,rfl,λω=>rfl,.bool true,?_,λω=>⟨.nil,λω m=>ax m jf⟩⟩,.of_keep keep,by rw[es],.of_eq (by rw[es];exact hg)⟩
 kernel_rfl
end Mine
theorem PySem.Challenge.cw_pq0098_01_holds : PySem.Challenge.rw_pq0098_01.Holds :=
  Mine.hd.top (Mine.walk (Mine.aae fun hl => Mine.aab hl)) Mine.hd.e8
