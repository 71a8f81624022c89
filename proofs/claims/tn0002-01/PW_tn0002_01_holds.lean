import PyProof.Rows.All
import Wide.All
import OpenK.AllK
import Wide.FinOn
import Lean
import PySem.Challenge.RW_tn0002_01
set_option Elab.async false
set_option maxRecDepth 100000
set_option maxHeartbeats 8000000
set_option linter.all false
namespace Internal.Mine
noncomputable section
set_option genInjectivity false
set_option genSizeOf false
set_option compiler.extract_closed false
set_option bootstrap.genMatcherCode false
open Array renaming getElem?_eq_some_iff->Mo,getElem?_toList->DX,isEmpty->afE,length_toList->af',mem_toList_iff->zq,mk->tu,size_append->ahh,toList_append->Nh,toList_push->EC
open Bool renaming and_eq_true->Nm,and_eq_true_iff->dj,and_false->y8,and_true->Mq,false->ak,false_and->afo,false_eq_true->Mu,false_ne_true->kA,false_or->afv,not_eq_true'->p8,or_assoc->afA,or_eq_false_iff->D3,or_eq_true->My,or_eq_true_iff->hI,or_false->D6,or_true->afT,true->L,true_and->zh
open Decidable renaming em->ahQ
open Eq renaming symm->ME,trans->p_
open Exists renaming elim->rC
open ForInStep renaming yield->ML
open Iff renaming rfl->MN
open Int renaming add_assoc->agf,add_comm->agj,add_le_add_left->agl,add_nonneg->agq,add_sub_cancel->MV,emod_lt_of_pos->Eg,emod_nonneg->Ei,eq_ofNat_of_zero_le->zr,le_add_of_nonneg_left->agC,le_natAbs->agD,le_of_eq->agJ,le_of_lt->iJ,le_refl->kD,le_trans->fg,lt_add_one_of_le->agW,lt_irrefl->Ey,lt_of_le_of_lt->nM,lt_of_lt_of_le->v9,lt_succ->mO,lt_trans->zB,natAbs_eq->ahc,natAbs_neg->ahd,natCast_nonneg->fG,natCast_pos->ahe,ne_of_lt->ahf,neg_lt_of_neg_lt->ahg,not_le->EB,not_lt->rI,ofNat->rJ,ofNat_le->qc,ofNat_lt->tv,ofNat_zero->ahi,sub_add_cancel->ahj,sub_nonneg_of_le->ahk,sub_zero->ahl,toNat_le->Ng,toNat_lt->v_,toNat_natCast->rK,toNat_of_nonneg->v'
open List renaming all_eq_true->j',all_map->ahm,any_cons->tw,any_eq_true->wa,append_assoc->ez,append_nil->dS,cons->zC,cons_append->zD,drop->zE,dropLast_concat->Nj,dropLast_concat_getLast->Nk,drop_nil->Nl,drop_of_length_le->ahn,ext_getElem?->aho,filter->ahp,filterMap_cons->zF,find?_cons->ahq,foldl_cons->ahr,forIn_cons->ahs,forall_mem_cons->bg,getElem?_append_left->eP,getElem?_append_right->kE,getElem?_concat_length->tx,getElem?_cons_succ->rL,getElem?_eq_getElem->lU,getElem?_eq_none_iff->y6,getElem?_eq_some_iff->c5,getElem?_map->rt,getElem?_range->afh,getElem?_set_ne->ru,getElem?_set_self->iF,getElem_of_mem->afi,getLast?_concat->Mp,length->y7,length_append->cu,length_cons->oW,length_eq_zero_iff->vO,length_map->fU,length_nil->afj,length_replicate->afk,length_set->fV,length_take->vP,lookup->nA,lookup_cons->vQ,map_append->Mr,map_cons->th,map_nil->afl,map_take->afm,mem_append->d9,mem_append_left->nB,mem_append_right->mH,mem_cons->gm,mem_cons_of_mem->mI,mem_cons_self->ti,mem_filterMap->rv,mem_iff_getElem?->rx,mem_map->tj,mem_map_of_mem->afn,mem_of_getElem?->ry,mem_or_eq_of_mem_set->Ms,mem_singleton->fC,nodup_append->y9,nodup_cons->j0,nodup_nil->rz,not_mem_nil->DY,pairwise_iff_getElem->afp,range->DZ,replicate->lV,replicate_succ->afq,singleton_append->afr,size_toArray->afs,take_length->Mt,take_of_length_le->D0,toArray->gn,zip_cons_cons->aft
open List.Pairwise renaming cons->ah2,map->ah3,nil->ah4
open List.cons renaming inj->Ni
open Nat renaming add_assoc->fD,add_comm->j1,add_eq_zero_iff->Mv,add_le_add->i6,add_le_add_left->e3,add_le_add_right->c_,add_lt_add_left->mJ,add_right_comm->nC,beq->cA,beq_eq->D1,ble->b',ble_eq->j2,blt->i7,blt_eq->vR,eq_of_beq_eq_true->rA,eq_zero_or_pos->afu,le_add_left->fE,le_add_right->bv,le_add_right_of_le->mK,le_antisymm->y_,le_max_left->f7,le_max_right->f1,le_of_add_le_add_left->afw,le_of_add_le_add_right->vS,le_of_ble_eq_true->cc,le_of_eq->ds,le_of_lt->mL,le_of_lt_succ->afx,le_of_not_lt->afy,le_of_succ_le->hH,le_of_succ_le_succ->el,le_refl->bq,le_sub_of_add_le->Mw,le_succ->j3,le_succ_of_le->lW,le_total->D2,le_trans->ao,le_zero->y',log2_lt->afz,lt_add_of_pos_right->afB,lt_irrefl->hp,lt_of_le_of_lt->rB,lt_of_lt_of_eq->za,lt_of_lt_of_le->fF,lt_succ_of_le->afC,lt_succ_of_lt->zb,lt_succ_self->zc,lt_trans->oX,max_eq_right->afD,max_le->g9,min_eq_left->D4,min_eq_right->D5,mul_add->Mx,mul_le_mul_left->nD,mul_le_mul_right->afF,mul_succ->afG,ne_of_gt->tk,ne_of_lt->iG,not_lt->vT,not_lt_zero->afH,not_succ_le_zero->tl,pow_le_pow_right->afI,pow_succ->afJ,pred->afK,sub_add_cancel->ie,sub_lt_sub_left->afL,sub_self->p9,succ->j4,succ_le_of_lt->afM,succ_le_succ->hJ,succ_lt_succ->afN,succ_mul->afO,succ_pos->lf,zero_add->em,zero_le->ff
open Nat.succ renaming inj->tm
open Ne renaming symm->i8
open Option renaming all->afP,bind->Mz,isNone_iff_eq_none->zd,isSome->afQ,isSome_iff_exists->ze,map_eq_some_iff->zf,none->au,some->I
open Option.some renaming inj->bR
open Prod renaming ext->nE,fst->afR
open Prod.mk renaming inj->afS
open PyProof.Rows renaming Assign_Tuple->ahC,Call_Name->D7,callWith_type->ahD,ge_int->ahE,getMethod_list_of->afU,le_int->ahF,slicePart_none->afV,slot_tuple_getitem->D8,subscriptTail->zg,tail_any->vU,truthy_int->ahG
open PySem renaming Addr->ay,Arguments->MA,Around->iH,BoolOp->tn,CmpOp->mM,Comprehension->MF,DictEntry->ea,ExceptHandler->MG,Expr->aW,Heap->bj,IsPart->vX,KeyKind->MM,Model->oZ,NameKind->gz,Operator->qb,OsState->eZ,Pairs->vZ,Params->c',PyData->f2,Scope->gS,Shared->a3,Stmt->dF,Value->ar,World->eO,aRefKeyMayBeTheName_at->agz,allTrue->M1,args_dict_setitem->agA,assign->Ej,assignEach->Ek,attributeBase->M2,backTo->lg,binaryOp->zu,bindC->v3,bindL->v4,builtinsNs->tq,cLine->kB,call_len_dict->agB,call_meets->zv,call_meetsIn->M3,cameBackBy->v5,cellOf->El,cellsFrom->o5,closureFor->M4,codeAny->tr,codeAny_mono->Em,compEnvC->rF,compareOp->En,comprehension->agE,concat_meets->agF,dictSet->zw,dictSetHashed->agG,entry_dict_setitem->agH,evalEach->M5,evalPairs->M6,evalPart->M7,foldedSetIterable->agI,getItem->M8,hashInt->Eo,hashStr->zx,holding->M9,importedModules->M_,intBits_le_iff->agK,intKind->kC,isTrue->rG,keys_map_store->agL,mainGlobals->nK,meets_dict_get_default->agM,methodCallForm->agN,methodCallPos->agO,model->gC,newFunctionEnv->zy,newList->M',noFill_tuple_add->agP,noteFrame->zz,notedBy->Ep,passOn->Na,pushCells_keeps->Nb,pyHashByItsType->agQ,pyIter->Er,rawInt->o6,recursionLimit->agR,reduceHash->Es,seq_tuple_add->agS,setItem->o7,sizeLine->j9,slicePick->v6,slot_dict_getitem->agT,slot_dict_setitem->Et,slot_list_getitem->agU,slot_list_setitem->agV,spliced->ts,standAt->v7,starEach->j_,storeName->Eu,storeName_local->Nc,stored->hq,strKind->gq,sysModules->rH,treeTable->nL,valueAt->lh,wpAny->cE,wpAny_askSetting->agX,wpAny_assign_Name->Ev,wpAny_bind->be,wpAny_call->Ew,wpAny_callSpecial?_slot->Ex,wpAny_call_entry->zA,wpAny_execs_nil->Nd,wpAny_field->tt,wpAny_getItem_of->agY,wpAny_holding->iK,wpAny_loadName_cell->agZ,wpAny_loadName_free->ag0,wpAny_loadName_local->ag1,wpAny_loadPart->Nf,wpAny_mkText->ag2,wpAny_mono->eb,wpAny_newList->ag3,wpAny_notOrdered_dict->ag4,wpAny_pure->cK,wpAny_pyIter_dict->ag5,wpAny_pyIter_list->ag6,wpAny_pyIter_tuple->ag7,wpAny_pyNext_dict_end->ag8,wpAny_rule->v8,wpAny_sequenceKey->Ez,wpAny_specialOf->ag9,wpAny_standAt->EA,wpAny_truthy_bool->ag_,wpAny_typeOf->ag',wpAny_updateDictKeys->aha,wpAny_updatePart->ahb
open PySem.Around renaming in1_units->MB
open PySem.AutoIntOps renaming iadd_0->ahH
open PySem.AutoListH renaming list___mul___list_int_3->ahI
open PySem.Builtin.Dict renaming missed->ahJ,notOrdered->ahK
open PySem.Builtin.List renaming listFitsIndex->ahL,listSubscript?->ahM,listTooLong->afW
open PySem.Builtin.Range renaming rangeSize->ahN
open PySem.Builtin.Slice renaming sliceAdjust->D9,sliceApplied->ahO,slicePartIndex->ahP,slicePlaces->MC
open PySem.Builtin.Tuple renaming tupleExact->afX,tupleHashOf->nF,tupleItemsOf->afY
open PySem.Calls renaming Constant_str->afZ,Name_function_global->MD,callWith_builtin->D_,callWith_function->af0,loadGlobal_global->af1,spliced_cons->zi,spliced_nil->D'
open PySem.Challenge renaming pw_tn0002_01->ahR,rw_tn0002_01->vV
open PySem.DictEntry renaming refKey->af2
open PySem.Env renaming kindOf->af3
open PySem.F renaming args_dict_get_3->MH,args_list_append_2->af4,args_tuple_add_2->af5,entry_dict_get->MI,entry_list_append->af6,entry_tuple_add->af7,slot_dict_get->Ea,slot_int_rmul->af8,slot_list_append->MJ,slot_list_extend->af9,slot_tuple_add->af_,slot_tuple_hash->Eb
open PySem.Heap renaming SameBut->j5,get?_push_of_some->i9,get?_push_size->nG,get?_update_other->MK,get?_update_self->qa,lt_size->vW,size_push->Ec
open PySem.Heap.DictOf renaming new->ahS
open PySem.Heap.IsSliceOf renaming new->ahT
open PySem.Heap.SameBut renaming refl->ahU,update->p'
open PySem.IsL renaming isList->oY,update->Ed
open PySem.NameKind renaming cell->o1,free->nH
open PySem.Obj renaming data_mapDict->aga,data_mapDictKeys->MO,data_mapFields->agb,isFreed_of_dict->MP,mapFields->agc,mapSeq->vY,putName->gA,putNameByArray->agd,putName_eq->age
open PySem.Pairs renaming nil->agg
open PySem.PyData renaming canLay0->MQ,canLayAll0->agh,depth->v0,depthAll->agi,eqv->gB,eqvAll->mN,int->Ee,list->agk,str->MR,strOk->gp
open PySem.Str renaming ofString->j6
open PySem.Value renaming isInt->MS,isStr->MT,isStrOf->o2,isStrOf_shape->agm,none->agn,ref->ago
open PySem.Value.type renaming inj->agp
open PySem.W renaming SharedT->rE,behindTheImports->agw,boot_drawn->v1,boot_heap->o3,boot_o_0->MY,boot_toks->MZ,emptyDict->j7,findIn->v2,hideAll->tp,instObj->o4,look_both->Eh,opensWell->M0,piece_app->zn,piecesOf->j8,readsAllW_cons_inv->agx,readsAllW_nil_inv->agy,segRunT->zo,segRun_of->zp,topFrame->iI
open PySem.W.Fast renaming te10110043849684766642->zj,te11892475500146522536->ahV,te14082659384304107361->ahW,te14364793385576792824->rD,te14374325043358763698->ahX,te15667345088766844465->ahY,te9446332074065402090->ahZ,tw10110043849684766642->nI,tw13343964577679436407->zk,tw14364793385576792824->nJ,tw17691160309236699985->agr,tw17960256430627541270->ags,tw2368527892694137696->MU,tw2436336058641802641->agt,tw3471404346716756564->MW,tw5923862056798008813->agu,tw8326940854005059898->MX,tw9446332074065402090->ah0,tw9807087744658564304->agv
open PySem.W.R renaming allR->zm
open PySem.W.WData renaming int->Ef
open PySem.comprehension renaming letGo->ah1
open PySem PySem.W PySem.Calls PyProof.Rows
open Lean in
def md(e:List Syntax)(t:String)(s:List Syntax):List Syntax:=match t.toName with
 |.num .anonymous k=>e[k]! ::s
 |.num p k=>
  let x:=s.take k
  let n(k:Name)(l:List Syntax):=Syntax.node .none (`Lean.Parser++k) (.mk l)
  let m:=mkNullNode (.mk x)
  let q:=n `Tactic.tacticSeq [n `Tactic.tacticSeq1Indented [m]]
  (if p== `S then q
  else if p== `B then n `Tactic.paren [q,q,q]
  else if p== `A then .node .none `group (.mk [q,q])
  else if p== `N then m
  else if p== `F then n `Term.app [x[0]!,mkNullNode (.mk x.tail)]
  else if p== `Q then n `Term.syntheticHole [q,q]
  else if p== `R then n `Term.arrow [n `Term.hole [q],q,m[0]]
  else if p== `H then n `Term.typeAscription [n `Term.hygienicLParen [q,.node .none `hygieneInfo (.mk [mkIdent .anonymous])],n `Term.syntheticHole [q,q],q,m,q]
  else if p== `K then .node .none `tacticKernel_rfl (.mk x)
  else n (if p.isAtomic then `Tactic++p else p) x)::s.drop k
 |n=>mkIdent n::s
open Lean in
def mz(p:String)(e:List Syntax):MacroM Syntax:=pure ((p.splitOn " ").foldr (md e) []).head!
open Lean in
local macro_rules (kind:=Lean.Parser.Command.declaration)|s=>do
 let m:=s[0]
 if m[1].isNone&&m[4].isNone&&(s[1][0].isToken "def"||s[1][0].isToken "abbrev") then pure (s.setArg 0 (m.setArg 4 (mkNullNode #[.node .none `Lean.Parser.Command.noncomputable #[mkAtom ""]])))else Macro.throwUnsupported
abbrev aZ:Program:=ahR
def DI(i:Nat):dF:=(aZ.main.body[i]?).getD (.Pass ⟨0,0,0,0⟩)
structure mR where
 name:Str
 args:MA
 body:List dF
 scope:gS
def Ww:mR:=⟨⟨#[]⟩,⟨[],[],au,[],[],au,[]⟩,[],⟨.function,[],ak,ak,[]⟩⟩
def Gw:dF->mR
 |.FunctionDef U a b _ _ _ s _ _ _=>⟨U,a,b,s⟩
 |_=>Ww
def T(i:Nat):mR:=Gw (DI i)
def Px:dF->List dF
 |.ClassDef _ _ _ b _ _ _ _ _ _ _=>b
 |_=>[]
def mD(i Y:Nat):mR:=Gw (((Px (DI i))[Y]?).getD (.Pass ⟨0,0,0,0⟩))
def sh(x:mR)(c:Str)(s:ay)(v J H M i a:ar)(b:ay):FuncData:={name:=x.name,qualname:=c,params:=x.args,body:=.stmts x.body,scope:=x.scope,globals:=s,closure:=[],defaults:=v,kwdefaults:=J,doc:=H,pyModule:=M,annotations:=au,code:=i,closureTuple:=a,builtins:=b}
def cv(P:c')(x:Str)(r:Tok)(B:ar):ea:=⟨PyData.keyHash P x,.str x r,B⟩
def b3(i:Int)(r:Tok)(B:ar):ea:=⟨Eo i,.int i r,B⟩
def hh(l:List ar):Obj:=⟨.type "tuple",au,.seq l.toArray 0,#[]⟩
def jG(l:List ar):Obj:=⟨.none,au,.fields l.toArray,#[]⟩
def ei(l:List Nat):Obj:=hh (l.map .ref)
def cS(a r b:Nat):Obj:=hh [.int a r,.int b (618+2*b)]
def kj(l:List ea)(U:Nat):Obj:=⟨.type "dict",au,.dict l.toArray U,#[]⟩
def h0(s:String)(l:List ar):Obj:=⟨.type s,au,.fields l.toArray,#[]⟩
def xu(r:Nat):ar:=.str "/claim/cut.py" r
def ur(U:Str)(r l a:Nat):Obj:=h0 "code" [.str U r,.str U (r+1),xu (r+2),.int l 0,.int 0 0,.int 0 0,.int 0 0,.int 0 0,.ref a,.bool ak,.int 181 0,.ref (a+1),.none,.none,.none,.none,.int ↑(r+3) 0,.int l 0,xu (r+4)]
def uu(a b:Nat)(U:Str)(r:Nat):Obj:=⟨.type "frame",au,.plain,#[I (.ref a),I (.ref 3),I (.ref b),au,I (.str U r),au,I (.ref 0)]⟩
def us(x:mR)(l:Str):Obj:=⟨.none,au,.func (sh x l 0 .none .none .none .none .none .none 0),#[]⟩
def ut(x:mR)(l:Str)(m:ar)(a:Nat):Obj:=⟨.type "function",au,.func (sh x l 3 .none .none .none m (.ref a) .none 0),#[]⟩
def xt(U:Str)(b m:List ar)(a:Nat)(s:List ar)(x:List (Option ar)):Obj:=⟨.type "type",au,.cls {name:=U,bases:=b,mro:=m,ns:=a,qualname:=U,hasDict:=L,slotNames:=[],subclasses:=s,abstract:=ak,collection:=au,hasDel:=ak},x.toArray⟩
def Ie:Nat->List Str->List ar
 |_,[]=>[]
 |r,s::q=>.str s r::Ie (r+1) q
def bU(x:mR)(U b:Str)(a r l g:Nat)(m:ar)(B:List Str):List Obj:=[hh [],jG [],hh (Ie (r+3) B),hh [],us x b,h0 "code" [.str U r,.str b (r+1),xu (r+2),.int l 0,.int g 0,.int 0 0,.int 0 0,.int 3 0,.ref a,.bool L,.int 181 0,.ref (a+1),.none,.ref (a+2),.ref (a+3),.ref (a+4),.int ↑(r+3+B.length) 0,.int l 0,xu (r+4+B.length)],ut x b m (a+5)]
def Tw:ar:=.str "framerune.faults" 187
def hA:ar:=.str "framerune.kinds" 236
def oe:ar:=.str "framerune.csbound" 516
def Tx:ar:=.str "framerune.sourceops" 778
def gJ:ar:=.str "framerune.sourcesplit" 789
def dG:ar:=.str "law_tn0002_01" 1023
def bD(P:c')(x:Str)(r B:Nat):ea:=cv P x r (.int B (r-1))
def bK(P:c')(x:Str)(r B:Nat):ea:=cv P x r (.ref B)
def Tv(P:c'):List ea:=[cv P "__doc__" 166 (.none),cv P "__package__" 167 (.none),cv P "__loader__" 168 (.builtin "__main__.__loader__#opaque"),cv P "__spec__" 169 (.none),bK P "__annotations__" 170 6,bK P "__builtins__" 171 4,cv P "__file__" 173 (.str "/claim/cut.py" 172),cv P "__cached__" 174 (.none),bK P "RuneError" 219 31,bK P "BadKind" 235 44,bD P "VOID" 239 0,bD P "BOOL" 241 1,bD P "CHAR" 243 2,bD P "I1" 245 3,bD P "U1" 247 4,bD P "I2" 249 5,bD P "U2" 251 6,bD P "I4" 253 7,bD P "U4" 255 8,bD P "I8" 257 9,bD P "U8" 259 10,bD P "NINT" 261 11,bD P "OBJECT" 263 12,bD P "STRING" 265 13,bD P "NULLK" 267 14,bD P "PRIM_END" 269 16,bD P "R_PRIM" 271 1,bD P "R_CLASS" 273 2,bD P "R_VALUE" 275 3,bD P "R_ARRAY" 277 4,bD P "R_BYREF" 279 5,bD P "R_VAR" 281 6,bD P "R_MVAR" 283 7,bD P "R_BOXED" 285 8,bD P "R_ROREF" 287 9,bD P "R_FTN" 289 10,bD P "R_RAW" 291 11,bD P "DEEPEST_KIND" 293 24,bD P "HEAVIEST_KIND" 295 4096,bK P "PRIM_TID" 324 47,bK P "TID_PRIM" 353 48,bD P "ARRAY_TID" 355 5,bK P "KindTable" 412 79,bK P "inner_kinds" 420 90,bK P "row_level" 427 97,bK P "row_length" 434 104,bK P "check_kind_row" 444 111,bK P "check_named" 452 118,bK P "check_args" 461 125,bK P "may_stand" 470 132,bK P "kind_sort" 478 139,bK P "tid_of" 487 146,bK P "args_of" 496 153,bK P "is_value" 504 160,bK P "is_var" 513 167,bD P "T_NULLABLE" 515 8,bD P "X_CONST" 519 1,bD P "X_LOCAL" 521 2,bD P "X_THIS" 523 3,bD P "X_FIELD" 525 4,bD P "X_SFIELD" 527 5,bD P "X_ELEM" 529 6,bD P "X_LEN" 531 7,bD P "X_CALL" 533 8,bD P "X_NEW" 535 9,bD P "X_NEWARR" 537 10,bD P "X_ARRLIT" 539 11,bD P "X_UN" 541 13,bD P "X_BIN" 543 14,bD P "X_AND" 545 15,bD P "X_OR" 547 16,bD P "X_COND" 549 17,bD P "X_COALESCE" 551 18,bD P "X_CONV" 553 19,bD P "X_IS" 555 20,bD P "X_AS" 557 21,bD P "X_ASSIGN" 559 22,bD P "X_COMPOUND" 561 23,bD P "X_DELEG" 563 25,bD P "X_CONCAT" 565 26,bD P "X_LIFT" 567 27,bD P "X_LIFTUN" 569 28,bD P "X_AWAIT" 571 30,bD P "X_SEQ" 573 31,bD P "X_HOLE" 575 32,bD P "X_REF" 577 33,bD P "X_PROP" 579 34,bD P "X_BASECTOR" 581 35,bD P "X_FNREF" 583 36,bD P "CV_NUM" 585 1,bD P "CV_REF" 587 2,bD P "CV_CAST" 589 3,bD P "CV_BOX" 591 4,bD P "CV_UNBOX" 593 5,bD P "CV_WRAP" 595 6,bD P "CV_UNWRAP" 597 7,bD P "CV_NULL" 599 8,bD P "S_EXPR" 601 1,bD P "S_BLOCK" 603 3,bD P "S_IF" 605 4,bD P "S_WHILE" 607 5,bD P "S_DO" 609 6,bD P "S_FOR" 611 7,bD P "S_FOREACH" 613 8,bD P "S_SWITCH" 615 9,bD P "S_TRY" 617 14,bD P "S_USING" 619 15,bD P "KS_ONE" 621 1,bD P "KS_MAYBE" 623 2,bD P "KS_ROW" 625 3,bK P "KID_PLACES" 695 168,bK P "STMT_KIDS" 713 239,bK P "parts_at" 725 263,bK P "kids_of" 732 270,bK P "with_kids" 745 277,bK P "plug" 751 282,bK P "switch_kids" 761 289,bK P "try_kids" 770 296,bK P "stmt_kids" 777 303,bK P "hole_kind_of" 788 310,bD P "X_SLOT" 792 91,bD P "X_NOTHING" 794 92,bD P "S_CUT" 796 93,bD P "S_HOLD" 798 94,bD P "S_AWAIT" 800 95,bK P "Splitter" 837 334,bK P "has_await" 845 345,bK P "mark_cut" 853 352,bK P "row_of" 860 359,bK P "place_asked" 868 366,bK P "hold_now" 878 373,bK P "fix_target" 892 380,bK P "taken_ahead" 902 387,bK P "fix_object" 911 394,bK P "split" 923 401,bK P "split_await" 934 408,bK P "paired" 943 415,bK P "split_logic" 956 422,bK P "split_choice" 969 429,bK P "split_coalesce" 985 436,bK P "split_compound" 998 443,bK P "held_part" 1009 450,bK P "split_parts" 1022 457,bK P "_law_take" 1032 464,bK P "_law_kinds" 1040 471,bK P "_law_named" 1048 478,bK P "_law_leaf" 1056 485,bK P "_law_int" 1065 492,bK P "_law_seq" 1075 499,bK P "_law_ref" 1084 506,bK P "_law_place" 1093 513,bK P "_law_new" 1105 520,bK P "_law_struct" 1114 527,bK P "_law_object" 1123 534,bK P "_law_deleg" 1133 541,bK P "_law_array" 1139 546,bK P "_law_maybe" 1150 553,bK P "_law_bool" 1159 560,bK P "_law_text" 1170 567,bK P "_law_world" 1177 574,bK P "_law_note" 1185 581,bK P "_law_throw" 1193 588,bK P "_law_put" 1201 595,bK P "_law_turn" 1211 602,bK P "_law_answer" 1220 609,bK P "_law_waited" 1228 616,bK P "_law_spot" 1238 623,bK P "_law_run" 1252 630,bK P "_law_reckon" 1262 637,bK P "_law_lifted" 1273 644,bK P "_law_boxed" 1282 651,bK P "_law_turned" 1293 658,bK P "_law_slot" 1303 665,bK P "_law_eval" 1316 672,bK P "_law_made" 1322 677,bK P "_law_exec" 1332 684,bK P "_law_whole" 1344 691,bK P "_law_waits" 1353 698,bK P "_law_cuts" 1366 705,bK P "_law_same" 1384 712,bK P "_law_drawn" 1392 719,bK P "_law_fixed" 1406 726,bK P "law" 1412 731]
def uw(P:c')(m:ar)(U:Nat):Obj:=kj (cv P "__name__" 165 m::(Tv P).take (U-1)) U
def Cw(P:c'):Obj:=uw P (.str "law_tn0002_01" 1023) 184
def Cv(P:c'):Obj:=⟨.none,au,.dict [cv P "type.__subclasses__.Exception.0" 216 (.int 31 0),cv P "type.__subclasses__.Exception.n" 217 (.int 1 0)].toArray 2,#[]⟩
def Ic:List (Nat×Nat)->List ar
 |[]=>[]
 |(a,b)::q=>.int a 0::.int 0 0::.ref b::Ic q
def uv:List ar:=Ic [(2,20),(7,40),(42,54),(91,89),(100,96),(104,103),(110,110),(132,117),(136,124),(140,131),(145,138),(147,145),(156,152),(161,159),(165,166),(226,262),(235,269),(237,276),(249,281),(258,288),(263,295),(270,302),(277,309),(291,316),(300,344),(307,351),(312,358),(314,365),(316,372),(322,379),(342,386),(348,393),(352,400),(376,407),(381,414),(386,421),(397,428),(408,435),(424,442),(434,449),(442,456),(458,463),(461,470),(470,477),(473,484),(477,491),(508,498),(513,505),(522,512),(529,519),(544,526),(553,533),(566,540),(574,545),(581,552),(592,559),(599,566),(610,573),(612,580),(617,587),(620,594),(623,601),(637,608),(653,615),(659,622),(669,629),(683,636),(695,643),(702,650),(706,657),(726,664),(733,671),(772,676),(815,683),(834,690),(843,697),(850,704),(868,711),(888,718),(912,725),(921,730)]
def Ib:List (List Obj)->List Obj
 |[]=>[]
 |x::q=>x++Ib q
def qQ(P:c'):List Obj:=MY P::boot_o_1 P::Cv P::Cw P::boot_o_4 P::boot_o_5 P::boot_o_6 P::boot_o_7 P::boot_o_8 P::boot_o_9 P::boot_o_10 P::Ib [
 [hh [],jG uv,ur "<module>" 182 1 11,uu 13 3 "__main__" 164,hh [.type "Exception"],h0 "builtin_function_or_method" [.builtin "type.__prepare__",.type "type"],kj [cv P "__module__" 196 (.str "framerune.faults" 187),cv P "__qualname__" 198 (.str "RuneError" 197),cv P "__firstlineno__" 200 (.int 2 199),cv P "__init__" 209 (.ref 28),cv P "__static_attributes__" 212 (.ref 29)] 5,hh [],jG [.int 4 0,.int 4 0,.ref 27],ur "RuneError" 191 2 18,uu 20 17 "framerune.faults" 187],
 bU (mD 1 0) "__init__" "RuneError.__init__" 22 201 4 3 Tw ["self","code","at"],
 [hh [.str "at" 210,.str "code" 211],kj [cv P "__module__" 196 (.str "framerune.faults" 187),cv P "__firstlineno__" 200 (.int 2 199),cv P "__init__" 209 (.ref 28),cv P "__static_attributes__" 212 (.ref 29),cv P "__weakref__" 214 (.ref 32),cv P "__doc__" 215 (.none)] 3,xt "RuneError" [.type "Exception"] [.ref 31,.type "Exception",.type "BaseException",.type "object"] 30 [.ref 44] [(I (.ref 15)),au,(I (.str "RuneError" 189)),(I (.str "RuneError" 197)),(I (.builtin "Exception.__new__")),(I (.bool L))],h0 "getset_descriptor" [.str "__weakref__" 213,.ref 31,.builtin "ExceptionGroup.__weakref__",.none],h0 "super" [.ref 31,.ref 31,.ref 31],h0 "builtin_function_or_method" [.builtin "object.__init_subclass__",.ref 31],ei [31],h0 "builtin_function_or_method" [.builtin "type.__prepare__",.type "type"],kj [cv P "__module__" 227 (.str "framerune.faults" 187),cv P "__qualname__" 229 (.str "BadKind" 228),cv P "__firstlineno__" 231 (.int 7 230),cv P "__static_attributes__" 232 (.ref 42)] 4,hh [],jG [],ur "BadKind" 222 7 38,uu 40 37 "framerune.faults" 187,hh [],kj [cv P "__module__" 227 (.str "framerune.faults" 187),cv P "__firstlineno__" 231 (.int 7 230),cv P "__static_attributes__" 232 (.ref 42),cv P "__doc__" 233 (.none)] 2,xt "BadKind" [.ref 31] [.ref 44,.ref 31,.type "Exception",.type "BaseException",.type "object"] 43 [] [(I (.ref 35)),au,(I (.str "BadKind" 220)),(I (.str "BadKind" 228)),(I (.builtin "Exception.__new__")),(I (.bool L))],h0 "super" [.ref 44,.ref 44,.ref 44],h0 "builtin_function_or_method" [.builtin "object.__init_subclass__",.ref 44],kj [b3 0 238 (.int 20 296),b3 1 240 (.int 9 297),b3 2 242 (.int 10 298),b3 3 244 (.int 11 299),b3 4 246 (.int 12 300),b3 5 248 (.int 13 301),b3 6 250 (.int 14 302),b3 7 252 (.int 15 303),b3 8 254 (.int 16 304),b3 9 256 (.int 17 305),b3 10 258 (.int 18 306),b3 11 260 (.int 19 307),b3 12 262 (.int 1 308),b3 13 264 (.int 4 309)] 14,kj [b3 20 325 (.int 0 238),b3 9 326 (.int 1 240),b3 10 327 (.int 2 242),b3 11 328 (.int 3 244),b3 12 329 (.int 4 246),b3 13 330 (.int 5 248),b3 14 331 (.int 6 250),b3 15 332 (.int 7 252),b3 16 333 (.int 8 254),b3 17 334 (.int 9 256),b3 18 335 (.int 10 258),b3 19 336 (.int 11 260),b3 1 337 (.int 12 262),b3 4 338 (.int 13 264)] 14,hh [],h0 "builtin_function_or_method" [.builtin "type.__prepare__",.type "type"],kj [cv P "__module__" 363 (.str "framerune.kinds" 236),cv P "__qualname__" 365 (.str "KindTable" 364),cv P "__firstlineno__" 367 (.int 42 366),cv P "__init__" 376 (.ref 62),cv P "row" 384 (.ref 69),cv P "put" 399 (.ref 76),cv P "__static_attributes__" 405 (.ref 77)] 7,hh [],jG [.int 44 0,.int 4 0,.ref 61,.int 58 0,.int 4 0,.ref 68,.int 63 0,.int 4 0,.ref 75],ur "KindTable" 358 42 52,uu 54 51 "framerune.kinds" 236],
 bU (mD 36 0) "__init__" "KindTable.__init__" 56 368 44 1 hA ["self","number","row"],
 bU (mD 36 1) "row" "KindTable.row" 63 377 58 2 hA ["self","k"],
 bU (mD 36 2) "put" "KindTable.put" 70 385 63 2 hA ["self","row","found","depth","weight","opened","level","inner","k"],
 [hh [.str "depths" 400,.str "index" 401,.str "opens" 402,.str "rows" 403,.str "weights" 404],kj [cv P "__module__" 363 (.str "framerune.kinds" 236),cv P "__firstlineno__" 367 (.int 42 366),cv P "__init__" 376 (.ref 62),cv P "row" 384 (.ref 69),cv P "put" 399 (.ref 76),cv P "__static_attributes__" 405 (.ref 77),cv P "__dict__" 407 (.ref 80),cv P "__weakref__" 409 (.ref 81),cv P "__doc__" 410 (.none)] 4,xt "KindTable" [.type "object"] [.ref 79,.type "object"] 78 [] [au,au,(I (.str "KindTable" 356)),(I (.str "KindTable" 364)),(I (.builtin "object.__new__")),(I (.bool L))],h0 "getset_descriptor" [.str "__dict__" 406,.ref 79,.builtin "function.__dict__",.builtin "function.__dict__#set"],h0 "getset_descriptor" [.str "__weakref__" 408,.ref 79,.builtin "ExceptionGroup.__weakref__",.none],h0 "super" [.ref 79,.ref 79,.ref 79],h0 "builtin_function_or_method" [.builtin "object.__init_subclass__",.ref 79]],
 bU (T 37) "inner_kinds" "inner_kinds" 84 413 91 1 hA ["row","sort"],
 bU (T 38) "row_level" "row_level" 91 421 100 1 hA ["sort"],
 bU (T 39) "row_length" "row_length" 98 428 104 1 hA ["sort"],
 bU (T 40) "check_kind_row" "check_kind_row" 105 435 110 2 hA ["kt","row","sort","inner"],
 bU (T 41) "check_named" "check_named" 112 445 132 2 hA ["kt","row"],
 bU (T 42) "check_args" "check_args" 119 453 136 2 hA ["kt","args","arg"],
 bU (T 43) "may_stand" "may_stand" 126 462 140 2 hA ["kt","k","sort"],
 bU (T 44) "kind_sort" "kind_sort" 133 471 145 2 hA ["kt","k"],
 bU (T 45) "tid_of" "tid_of" 140 479 147 2 hA ["kt","k","row"],
 bU (T 46) "args_of" "args_of" 147 488 156 2 hA ["kt","k","row"],
 bU (T 47) "is_value" "is_value" 154 497 161 2 hA ["kt","k"],
 bU (T 48) "is_var" "is_var" 161 505 165 2 hA ["kt","k","sort"],
 [kj [b3 4 524 (.ref 170),b3 6 528 (.ref 173),b3 7 530 (.ref 175),b3 8 532 (.ref 178),b3 9 534 (.ref 180),b3 10 536 (.ref 182),b3 11 538 (.ref 184),b3 13 540 (.ref 186),b3 14 542 (.ref 189),b3 15 544 (.ref 192),b3 16 546 (.ref 195),b3 17 548 (.ref 199),b3 18 550 (.ref 202),b3 19 552 (.ref 204),b3 20 554 (.ref 206),b3 21 556 (.ref 208),b3 22 558 (.ref 211),b3 23 560 (.ref 215),b3 25 562 (.ref 217),b3 26 564 (.ref 219),b3 27 566 (.ref 222),b3 28 568 (.ref 224),b3 30 570 (.ref 226),b3 31 572 (.ref 229),b3 33 576 (.ref 231),b3 34 578 (.ref 234),b3 35 580 (.ref 236),b3 36 582 (.ref 238)] 28,cS 2 626 1,ei [169],cS 2 628 1,cS 3 629 1,ei [171,172],cS 2 631 1,ei [174],cS 2 633 2,cS 4 634 3,ei [176,177],cS 3 636 3,ei [179],cS 2 638 1,ei [181],cS 2 640 3,ei [183],cS 3 642 1,ei [185],cS 3 644 1,cS 4 645 1,ei [187,188],cS 2 647 1,cS 3 648 1,ei [190,191],cS 2 650 1,cS 3 651 1,ei [193,194],cS 2 653 1,cS 3 654 1,cS 4 655 1,ei [196,197,198],cS 2 657 1,cS 3 658 1,ei [200,201],cS 2 660 1,ei [203],cS 2 662 1,ei [205],cS 2 664 1,ei [207],cS 2 666 1,cS 3 667 1,ei [209,210],kj [b3 23 560 (.ref 215),b3 25 562 (.ref 217),b3 26 564 (.ref 219),b3 27 566 (.ref 222),b3 28 568 (.ref 224),b3 30 570 (.ref 226),b3 31 572 (.ref 229),b3 33 576 (.ref 231),b3 34 578 (.ref 234),b3 35 580 (.ref 236),b3 36 582 (.ref 238)] 11,cS 2 669 1,cS 3 670 1,ei [213,214],cS 2 671 2,ei [216],cS 2 672 3,ei [218],cS 3 673 1,cS 4 674 1,ei [220,221],cS 3 675 1,ei [223],cS 2 676 1,ei [225],cS 2 677 3,cS 3 678 1,ei [227,228],cS 2 679 1,ei [230],cS 2 680 2,cS 5 681 3,ei [232,233],cS 3 682 3,ei [235],cS 2 683 2,ei [237],kj [b3 3 602 (.ref 241),b3 4 604 (.ref 244),b3 5 606 (.ref 246),b3 6 608 (.ref 248),b3 7 610 (.ref 252),b3 8 612 (.ref 254),b3 15 618 (.ref 256)] 7,cS 1 696 3,ei [240],cS 2 697 1,cS 3 698 2,ei [242,243],cS 2 699 1,ei [245],cS 1 700 1,ei [247],cS 1 701 3,cS 4 702 1,cS 3 703 3,ei [249,250,251],cS 3 704 1,ei [253],cS 4 705 1,ei [255]],
 bU (T 107) "parts_at" "parts_at" 257 714 226 2 oe ["row","places","out","place","sort","part"],
 bU (T 108) "kids_of" "kids_of" 264 726 235 1 oe ["e"],
 bU (T 109) "with_kids" "with_kids" 271 733 237 2 oe ["e","kids","row","at","place","sort","part"],
 [hh [],jG [],us (T 110) "plug",⟨.type "code",au,.fields [.str "plug" 746,.str "plug" 747,.str "/claim/cut.py" 748,.int 249 0,.int 2 0,.int 0 0,.int 0 0,.int 3 0,.ref 278,.bool L,.int 181 0,.ref 279,.none,.none,.none,.ref 280,.int 749 0,.int 249 0,.str "/claim/cut.py" 750].toArray,#[]⟩,ut (T 110) "plug" oe 281],
 bU (T 111) "switch_kids" "switch_kids" 283 752 258 1 oe ["s","out","labels","stmts"],
 bU (T 112) "try_kids" "try_kids" 290 762 263 1 oe ["s","out","row"],
 bU (T 113) "stmt_kids" "stmt_kids" 297 771 270 1 oe ["s"],
 bU (T 115) "hole_kind_of" "hole_kind_of" 304 780 277 1 Tx ["e","kid","k"],
 [hh [],h0 "builtin_function_or_method" [.builtin "type.__prepare__",.type "type"],kj [cv P "__module__" 808 (.str "framerune.sourcesplit" 789),cv P "__qualname__" 810 (.str "Splitter" 809),cv P "__firstlineno__" 812 (.int 291 811),cv P "__init__" 820 (.ref 324),cv P "slot" 827 (.ref 331),cv P "__static_attributes__" 830 (.ref 332)] 6,hh [],jG [.int 293 0,.int 4 0,.ref 323,.int 297 0,.int 4 0,.ref 330],ur "Splitter" 803 291 314,uu 316 313 "framerune.sourcesplit" 789],
 bU (mD 122 0) "__init__" "Splitter.__init__" 318 813 293 2 gJ ["self","kt"],
 bU (mD 122 1) "slot" "Splitter.slot" 325 821 297 1 gJ ["self"],
 [hh [.str "count" 828,.str "kt" 829],kj [cv P "__module__" 808 (.str "framerune.sourcesplit" 789),cv P "__firstlineno__" 812 (.int 291 811),cv P "__init__" 820 (.ref 324),cv P "slot" 827 (.ref 331),cv P "__static_attributes__" 830 (.ref 332),cv P "__dict__" 832 (.ref 335),cv P "__weakref__" 834 (.ref 336),cv P "__doc__" 835 (.none)] 4,xt "Splitter" [.type "object"] [.ref 334,.type "object"] 333 [] [au,au,(I (.str "Splitter" 801)),(I (.str "Splitter" 809)),(I (.builtin "object.__new__")),(I (.bool L))],h0 "getset_descriptor" [.str "__dict__" 831,.ref 334,.builtin "function.__dict__",.builtin "function.__dict__#set"],h0 "getset_descriptor" [.str "__weakref__" 833,.ref 334,.builtin "ExceptionGroup.__weakref__",.none],h0 "super" [.ref 334,.ref 334,.ref 334],h0 "builtin_function_or_method" [.builtin "object.__init_subclass__",.ref 334]],
 bU (T 123) "has_await" "has_await" 339 838 300 1 gJ ["e","kid"],
 bU (T 124) "mark_cut" "mark_cut" 346 846 307 1 gJ ["s","kid"],
 bU (T 125) "row_of" "row_of" 353 854 312 1 gJ ["stmts"],
 bU (T 126) "place_asked" "place_asked" 360 861 314 2 gJ ["sp","k"],
 bU (T 127) "hold_now" "hold_now" 367 869 316 3 gJ ["sp","e","pre","n"],
 bU (T 128) "fix_target" "fix_target" 374 879 322 3 gJ ["sp","e","pre","code","arr","obj","args","arg"],
 bU (T 129) "taken_ahead" "taken_ahead" 381 893 342 3 gJ ["sp","place","pre","code"],
 bU (T 130) "fix_object" "fix_object" 388 903 348 3 gJ ["sp","obj","pre"],
 bU (T 131) "split" "split" 395 912 352 3 gJ ["sp","e","pre","code","effect","aim"],
 bU (T 132) "split_await" "split_await" 402 924 376 3 gJ ["sp","e","pre","task","n"],
 bU (T 133) "paired" "paired" 409 935 381 1 gJ ["e","whole","part"],
 bU (T 134) "split_logic" "split_logic" 416 944 386 3 gJ ["sp","e","pre","n","slot","inner","test"],
 bU (T 135) "split_choice" "split_choice" 423 957 397 3 gJ ["sp","e","pre","test","n","yes","no"],
 bU (T 136) "split_coalesce" "split_coalesce" 430 970 408 3 gJ ["sp","e","pre","left","n","value","test","out","yes","no"],
 bU (T 137) "split_compound" "split_compound" 437 986 424 3 gJ ["sp","e","pre","aim","n","old","write"],
 bU (T 138) "held_part" "held_part" 444 999 434 5 gJ ["sp","e","part","place","pre"],
 bU (T 139) "split_parts" "split_parts" 451 1010 442 3 gJ ["sp","e","pre","kids","last","place","out"],
 bU (T 141) "_law_take" "_law_take" 458 1025 458 2 dG ["g","count"],
 bU (T 142) "_law_kinds" "_law_kinds" 465 1033 461 1 dG ["g","kt"],
 bU (T 143) "_law_named" "_law_named" 472 1041 470 2 dG ["g","owner"],
 bU (T 144) "_law_leaf" "_law_leaf" 479 1049 473 2 dG ["g","k"],
 bU (T 145) "_law_int" "_law_int" 486 1057 477 2 dG ["g","d","what"],
 bU (T 146) "_law_seq" "_law_seq" 493 1066 508 3 dG ["g","d","value","effects"],
 bU (T 147) "_law_ref" "_law_ref" 500 1076 513 2 dG ["g","d","what"],
 bU (T 148) "_law_place" "_law_place" 507 1085 522 2 dG ["g","d","what"],
 bU (T 149) "_law_new" "_law_new" 514 1094 529 3 dG ["g","k","d","args","one","what"],
 bU (T 150) "_law_struct" "_law_struct" 521 1106 544 2 dG ["g","d","what"],
 bU (T 151) "_law_object" "_law_object" 528 1115 553 2 dG ["g","d","what"],
 bU (T 152) "_law_deleg" "_law_deleg" 535 1124 566 2 dG ["g","d","what","on"],
 [hh [],jG [],us (T 153) "_law_array",⟨.type "code",au,.fields [.str "_law_array" 1134,.str "_law_array" 1135,.str "/claim/cut.py" 1136,.int 574 0,.int 2 0,.int 0 0,.int 0 0,.int 3 0,.ref 542,.bool L,.int 181 0,.ref 543,.none,.none,.none,.ref 544,.int 1137 0,.int 574 0,.str "/claim/cut.py" 1138].toArray,#[]⟩,ut (T 153) "_law_array" dG 545],
 bU (T 154) "_law_maybe" "_law_maybe" 547 1140 581 2 dG ["g","d","what","q","op"],
 bU (T 155) "_law_bool" "_law_bool" 554 1151 592 2 dG ["g","d","what"],
 bU (T 156) "_law_text" "_law_text" 561 1160 599 2 dG ["g","d","parts","one","what"],
 bU (T 157) "_law_world" "_law_world" 568 1171 610 1 dG ["g"],
 bU (T 158) "_law_note" "_law_note" 575 1178 612 2 dG ["w","row"],
 bU (T 159) "_law_throw" "_law_throw" 582 1186 617 2 dG ["w","code"],
 bU (T 160) "_law_put" "_law_put" 589 1194 620 2 dG ["w","row"],
 bU (T 161) "_law_turn" "_law_turn" 596 1202 623 1 dG ["w","many","lids","place"],
 bU (T 162) "_law_answer" "_law_answer" 603 1212 637 3 dG ["w","k","n"],
 bU (T 163) "_law_waited" "_law_waited" 610 1221 653 2 dG ["w","task"],
 bU (T 164) "_law_spot" "_law_spot" 617 1229 659 2 dG ["w","e","number","at"],
 bU (T 165) "_law_run" "_law_run" 624 1239 669 4 dG ["w","word","mref","rows","args","e","told","at"],
 bU (T 166) "_law_reckon" "_law_reckon" 631 1253 683 4 dG ["w","op","a","b"],
 bU (T 167) "_law_lifted" "_law_lifted" 638 1263 695 4 dG ["w","op","a","b","n"],
 bU (T 168) "_law_boxed" "_law_boxed" 645 1274 702 3 dG ["w","k","value"],
 bU (T 169) "_law_turned" "_law_turned" 652 1283 706 3 dG ["w","e","value","way","thing"],
 bU (T 170) "_law_slot" "_law_slot" 659 1294 726 2 dG ["w","e","k","value"],
 bU (T 171) "_law_eval" "_law_eval" 666 1304 733 2 dG ["w","e","code","left","spot","effect","value"],
 [hh [],jG [],us (T 172) "_law_made",⟨.type "code",au,.fields [.str "_law_made" 1317,.str "_law_made" 1318,.str "/claim/cut.py" 1319,.int 772 0,.int 2 0,.int 0 0,.int 0 0,.int 3 0,.ref 673,.bool L,.int 181 0,.ref 674,.none,.none,.none,.ref 675,.int 1320 0,.int 772 0,.str "/claim/cut.py" 1321].toArray,#[]⟩,ut (T 172) "_law_made" dG 676],
 bU (T 173) "_law_exec" "_law_exec" 678 1323 815 2 dG ["w","s","code","kid"],
 bU (T 174) "_law_whole" "_law_whole" 685 1333 834 3 dG ["g","before","e","w","s","end"],
 bU (T 175) "_law_waits" "_law_waits" 692 1345 843 1 dG ["part","count","inner"],
 bU (T 176) "_law_cuts" "_law_cuts" 699 1354 850 2 dG ["s","slots","marked","holds","kids","kid","told"],
 bU (T 177) "_law_same" "_law_same" 706 1367 868 3 dG ["g","sp","e","first","before","rest","many","slots","s","told","n","got"],
 bU (T 178) "_law_drawn" "_law_drawn" 713 1385 888 2 dG ["g","sort"],
 bU (T 179) "_law_fixed" "_law_fixed" 720 1393 912 1 dG ["g","one","late","crate","maybe","aims","call","write"],
 [hh [],jG [],us (T 180) "law",⟨.type "code",au,.fields [.str "law" 1407,.str "law" 1408,.str "/claim/cut.py" 1409,.int 921 0,.int 1 0,.int 0 0,.int 0 0,.int 3 0,.ref 727,.bool L,.int 181 0,.ref 728,.none,.none,.none,.ref 729,.int 1410 0,.int 921 0,.str "/claim/cut.py" 1411].toArray,#[]⟩,ut (T 180) "law" dG 730]]
def Br:List Obj->List Obj
 |[]=>[]
 |[x]=>[x]
 |x::_::q=>x::Br q
def uq:Nat->List Obj->BT
 |0,_=>.nil
 |_+1,[]=>.nil
 |U+1,x::q=>.node x (uq U (Br q)) (uq U (Br q.tail))
def xv(P:c')(U:Nat)(a b:Obj):BT:=uq 10 (((qQ P).take U|>.set 3 a).set 12 b)
def LR(P:c'):BT:=uq 10 ((((qQ P).take 15|>.set 2 (boot_o_2 P)).set 3 (boot_o_3 P)).set 12 (jG []))
def acl(P:c'):BT:=xv P 84 (uw P hA 44) (jG (uv.take 9))
def acm(P:c'):BT:=xv P 168 (uw P oe 111) (jG (uv.take 45))
def acn(P:c'):BT:=xv P 339 (uw P gJ 127) (jG (uv.take 72))
def aco(P:c'):BT:=xv P 652 (uw P dG 172) (jG (uv.take 207))
def acp(P:c'):BT:=uq 10 (qQ P)
def re(r:BT)(U a:Nat)(b:eZ):rE:=⟨r,U,{},tu [],v1,a,b⟩
def hW:Env:={scope:=aZ.main.scope,locals:=mainNs,globals:=mainNs,cells:=[],code:=.ref 13,frame:=I 14}
def m0:List dF:=aZ.main.body
def eh:Code:=.body m0 hW
abbrev b7:Pos:=⟨0,0,0,0⟩
def Lw(P:c')(b:eZ):rE:=re (LR P) 15 187 b
def s7(P:c')(b:eZ):rE:=re (LR P) 15 187 b
def ra(P:c')(b:eZ):rE:=re (acl P) 84 413 b
def rb(P:c')(b:eZ):rE:=re (acm P) 168 626 b
def rd(P:c')(b:eZ):rE:=re (acn P) 339 838 b
def yS(P:c')(b:eZ):rE:=re (aco P) 652 1283 b
def Dk(P:c')(b:eZ):rE:=re (acp P) 732 1413 b
def s8:List dF:=(m0.drop 0).take 37
def Dp:List dF:=(m0.drop 37).take 68
def s9:List dF:=(m0.drop 105).take 18
def Dq:List dF:=(m0.drop 123).take 46
def Dr:List dF:=(m0.drop 169).take 12
theorem XU(A:eO)(b:eZ):nI nJ aZ (A.withFollow "special-get-raises" ak) 11 (I (.ref 6)) 1 1442 (s7 (A.withFollow "special-get-raises" ak).params b) (j8 s8 hW eh ⟨0,0,0,0⟩ [iI b7])=I (.next,ra (A.withFollow "special-get-raises" ak).params b,eh,⟨42,0,90,16⟩):=by kernel_rfl
theorem XV(A:eO)(b:eZ):nI nJ aZ (A.withFollow "special-get-raises" L) 11 (I (.ref 6)) 1 1442 (s7 (A.withFollow "special-get-raises" L).params b) (j8 s8 hW eh ⟨0,0,0,0⟩ [iI b7])=I (.next,ra (A.withFollow "special-get-raises" L).params b,eh,⟨42,0,90,16⟩):=by kernel_rfl
theorem XT(A:eO):∀b:eZ,nI nJ aZ A 11 (I (.ref 6)) 1 1442 (s7 A.params b) (j8 s8 hW eh ⟨0,0,0,0⟩ [iI b7])=I (.next,ra A.params b,eh,⟨42,0,90,16⟩):=byRow2 "special-get-raises" (P:=λA=>∀b:eZ,nI nJ aZ A 11 (I (.ref 6)) 1 1442 (s7 A.params b) (j8 s8 hW eh ⟨0,0,0,0⟩ [iI b7])=I (.next,ra A.params b,eh,⟨42,0,90,16⟩)) XU XV A
theorem XA(A:eO)(b:eZ):zo nL aZ A 11 (I (.ref 6)) 1 1442 (s7 A.params b) (j8 s8 hW eh ⟨0,0,0,0⟩ [iI b7])=I (.next,ra A.params b,eh,⟨42,0,90,16⟩):=by rw[zj,rD];exact XT A b
theorem XW(A:eO)(b:eZ):nI nJ aZ A 11 (I (.ref 6)) 1 870 (ra A.params b) (j8 Dp hW eh ⟨42,0,90,16⟩ [iI b7])=I (.next,rb A.params b,eh,⟨223,0,223,6⟩):=by kernel_rfl
theorem XB(A:eO)(b:eZ):zo nL aZ A 11 (I (.ref 6)) 1 870 (ra A.params b) (j8 Dp hW eh ⟨42,0,90,16⟩ [iI b7])=I (.next,rb A.params b,eh,⟨223,0,223,6⟩):=by rw[zj,rD];exact XW A b
theorem XY(A:eO)(b:eZ):nI nJ aZ (A.withFollow "special-get-raises" ak) 11 (I (.ref 6)) 1 1438 (rb (A.withFollow "special-get-raises" ak).params b) (j8 s9 hW eh ⟨223,0,223,6⟩ [iI b7])=I (.next,rd (A.withFollow "special-get-raises" ak).params b,eh,⟨291,0,299,25⟩):=by kernel_rfl
theorem XZ(A:eO)(b:eZ):nI nJ aZ (A.withFollow "special-get-raises" L) 11 (I (.ref 6)) 1 1438 (rb (A.withFollow "special-get-raises" L).params b) (j8 s9 hW eh ⟨223,0,223,6⟩ [iI b7])=I (.next,rd (A.withFollow "special-get-raises" L).params b,eh,⟨291,0,299,25⟩):=by kernel_rfl
theorem XX(A:eO):∀b:eZ,nI nJ aZ A 11 (I (.ref 6)) 1 1438 (rb A.params b) (j8 s9 hW eh ⟨223,0,223,6⟩ [iI b7])=I (.next,rd A.params b,eh,⟨291,0,299,25⟩):=byRow2 "special-get-raises" (P:=λA=>∀b:eZ,nI nJ aZ A 11 (I (.ref 6)) 1 1438 (rb A.params b) (j8 s9 hW eh ⟨223,0,223,6⟩ [iI b7])=I (.next,rd A.params b,eh,⟨291,0,299,25⟩)) XY XZ A
theorem XC(A:eO)(b:eZ):zo nL aZ A 11 (I (.ref 6)) 1 1438 (rb A.params b) (j8 s9 hW eh ⟨223,0,223,6⟩ [iI b7])=I (.next,rd A.params b,eh,⟨291,0,299,25⟩):=by rw[zj,rD];exact XX A b
theorem X0(A:eO)(b:eZ):nI nJ aZ A 11 (I (.ref 6)) 1 1441 (rd A.params b) (j8 Dq hW eh ⟨291,0,299,25⟩ [iI b7])=I (.next,yS A.params b,eh,⟨702,0,705,65⟩):=by kernel_rfl
theorem XD(A:eO)(b:eZ):zo nL aZ A 11 (I (.ref 6)) 1 1441 (rd A.params b) (j8 Dq hW eh ⟨291,0,299,25⟩ [iI b7])=I (.next,yS A.params b,eh,⟨702,0,705,65⟩):=by rw[zj,rD];exact X0 A b
theorem X1(A:eO)(b:eZ):nI nJ aZ A 11 (I (.ref 6)) 1 391 (yS A.params b) (j8 Dr hW eh ⟨702,0,705,65⟩ [iI b7])=I (.next,Dk A.params b,eh,⟨921,0,935,15⟩):=by kernel_rfl
theorem XE(A:eO)(b:eZ):zo nL aZ A 11 (I (.ref 6)) 1 391 (yS A.params b) (j8 Dr hW eh ⟨702,0,705,65⟩ [iI b7])=I (.next,Dk A.params b,eh,⟨921,0,935,15⟩):=by rw[zj,rD];exact X1 A b
open Lean in
local macro_rules (kind:=Lean.Parser.Tactic.show)|s=>mz "refine.2 a 0" [s[1]]
open Lean in
local macro_rules (kind:=Lean.Parser.Tactic.split)|s=>if s[1].isNone then Macro.throwUnsupported else mz "refine.2 a H.1 0" [s[1][0]]
open Lean in
local macro_rules (kind:=coeNotation)|s=>mz "F.2 Term.dotIdent.2 a int 0" [s[1]]
open Lean in
local macro_rules (kind:=coeFunNotation)|s=>mz "F.2 Term.dotIdent.2 a ref 0" [s[1]]
open Lean in
local macro_rules (kind:=coeSortNotation)|s=>mz "F.2 decide 0" [s[1]]
open Lean in
local macro_rules (kind:=«term#[_,]»)|s=>if s[1].getNumArgs=0 then mz "Term.byTactic.2 a S.1 K.1 a" [] else mz "Term.anonymousCtor.3 a 0 a" [s[1]]
open Lean in
local macro_rules (kind:=Lean.Parser.Term.tuple)|s=>if s[1].isNone then mz "Term.byTactic.2 a S.1 omega.2 a optConfig.1 N.0" [] else Macro.throwUnsupported
open Lean in
local macro_rules (kind:=Lean.Parser.Tactic.tacticRfl')|s=>mz "K.1 a" []
open Lean in
local macro_rules (kind:=Lean.Parser.Tactic.acRfl)|s=>mz "B.3 refine.2 a F.2 C2 Q.0 a K.1 a" []
open Lean in
local macro_rules (kind:=Lean.Parser.Tactic.omega)|s=>mz "first.2 a N.4 A.1 assumption.1 a A.1 exact.2 a F.2 Nat.le_add_right Term.ellipsis.1 a A.1 decide.2 a optConfig.1 N.0 A.1 lia.2 a optConfig.1 N.0" []
open Lean in
local macro_rules (kind:=Lean.Parser.Tactic.tacticLet__)|s=>mz "tacticHave__.3 a 0 1" [s[1],s[2]]
theorem j{c:Sort _}{E:c}:E=E:=rfl
abbrev bL:=Unit.unit
def aL:= @if_pos
def aS:= @if_neg
def cW:= @decide_eq_true
def f8:= @decide_eq_false
def Nn:= @decide_eq_true_eq
def bS:= @of_decide_eq_true
def rM:= @of_decide_eq_false
def fh:= @beq_self_eq_true
def cH:= @absurd
def aht:= @or_false
def aN:= @congrArg
theorem ah5(p U:Nat)(z:U<=p):∃Y,p=Y+U:=⟨p-U,by omega⟩
def ki(P:c')(b:eZ):a3:= #[#[(qQ P).toArray,{}],tu [],v1,1413,b]
theorem ahw:agw aZ=m0:= #[]
theorem X2(A:eO)(b:eZ):topGo nL aZ A 11 (I ⇑6) 12 #[o3 A.params,tu [],v1,MZ,b] (topStub aZ)=I ((Lw A.params b).abs,#[denote nL (.body m0 hW),eh,b7,[iI b7]]):=by rw[ahY,rD,ahV];rfl'
theorem OP(A:eO)(b:eZ):segRun nL aZ A 11 (I ⇑6) 1 1 (Lw A.params b).abs (blockOf m0 hW eh b7 [iI b7])=I (.next,(s7 A.params b).abs,eh,b7):=by rw[ahX,rD];rfl'
theorem UT(A:eO)(b:eZ):topRun nL aZ A 11 (I ⇑6) 2 (Dk A.params b).abs #[doneF .next,eh,#[921,0,935,15],[iI b7]]=I (ki A.params b):=by rw[ahW,rD];rfl'
theorem Xq:m0=s8++(Dp++(s9++(Dq++(Dr++[])))):= #[]
theorem ZK(A:eO)(b:eZ):topRun nL aZ A 11 (I ⇑6) (12+(1+(1442+(870+(1438+(1441+(391+2))))))) #[o3 A.params,tu [],v1,MZ,b] (topStub aZ)=I (ki A.params b):=by show go_top (X2 A b) ?_;show piece_block (OP A b) ?_;rw[Xq];show zn (zp (XA A b)) ?_;show zn (zp (XB A b)) ?_;show zn (zp (XC A b)) ?_;show zn (zp (XD A b)) ?_;show zn (zp (XE A b)) ?_;show UT A b
abbrev kw:OpenRow:=vV.row
def bs:Program:={aZ with main:={aZ.main with body:=[DI 180]}}
def xT:List Str:=["RuneError","BadKind","VOID","BOOL","CHAR","I1","U1","I2","U2","I4","U4","I8","U8","NINT","OBJECT","STRING","NULLK","PRIM_END","R_PRIM","R_CLASS","R_VALUE","R_ARRAY","R_BYREF","R_VAR","R_MVAR","R_BOXED","R_ROREF","R_FTN","R_RAW","DEEPEST_KIND","HEAVIEST_KIND","PRIM_TID","TID_PRIM","ARRAY_TID","KindTable","inner_kinds","row_level","row_length","check_kind_row","check_named","check_args","may_stand","kind_sort","tid_of","args_of","is_value","is_var","T_NULLABLE","X_CONST","X_LOCAL","X_THIS","X_FIELD","X_SFIELD","X_ELEM","X_LEN","X_CALL","X_NEW","X_NEWARR","X_ARRLIT","X_UN","X_BIN","X_AND","X_OR","X_COND","X_COALESCE","X_CONV","X_IS","X_AS","X_ASSIGN","X_COMPOUND","X_DELEG","X_CONCAT","X_LIFT","X_LIFTUN","X_AWAIT","X_SEQ","X_HOLE","X_REF","X_PROP","X_BASECTOR","X_FNREF","CV_NUM","CV_REF","CV_CAST","CV_BOX","CV_UNBOX","CV_WRAP","CV_UNWRAP","CV_NULL","S_EXPR","S_BLOCK","S_IF","S_WHILE","S_DO","S_FOR","S_FOREACH","S_SWITCH","S_TRY","S_USING","KS_ONE","KS_MAYBE","KS_ROW","KID_PLACES","STMT_KIDS","parts_at","kids_of","with_kids","plug","switch_kids","try_kids","stmt_kids","hole_kind_of","X_SLOT","X_NOTHING","S_CUT","S_HOLD","S_AWAIT","Splitter","has_await","mark_cut","row_of","place_asked","hold_now","fix_target","taken_ahead","fix_object","split","split_await","paired","split_logic","split_choice","split_coalesce","split_compound","held_part","split_parts","_law_take","_law_kinds","_law_named","_law_leaf","_law_int","_law_seq","_law_ref","_law_place","_law_new","_law_struct","_law_object","_law_deleg","_law_array","_law_maybe","_law_bool","_law_text","_law_world","_law_note","_law_throw","_law_put","_law_turn","_law_answer","_law_waited","_law_spot","_law_run","_law_reckon","_law_lifted","_law_boxed","_law_turned","_law_slot","_law_eval","_law_made","_law_exec","_law_whole","_law_waits","_law_cuts","_law_same","_law_drawn","_law_fixed"].map j6
theorem W6:∀A:eO,(fencedOpening nL aZ A 10000).map (λD=>(D.heap,D.gens,D.drawn,D.toks))=I (o3 A.params,tu [],v1,MZ):=boot_open #[] #[] (λD=> #[])
theorem aa6:∀A:eO,((o3 A.params).isNs nK&&(tu []:Array GenState).size==0,(o3 A.params).objs.size,(o3 A.params).nsMap nK "__annotations__")=(L,11,I ⇑6):=λA=> #[]
theorem Vp(A:eO)(b:eZ):staticsOk (M_ aZ.main.body) (o3 A.params) (ki A.params b).heap=L:= #[]
theorem Vq(A:eO)(b:eZ):namesBound aZ (ki A.params b).heap=L:= #[]
theorem Vr(A:eO)(b:eZ):gensDone (ki A.params b)=L:= #[]
theorem Vs(A:eO)(b:eZ):laidKept (o3 A.params) (ki A.params b).heap=L:= #[]
theorem Vt(A:eO)(b:eZ):openSeen bs xT (M_ aZ.main.body) (λa=>L) L (ki A.params b)=openGood bs xT:=by
 show nE ?_ (nE ?_ (nE ?_ (nE ?_ (nE ?_ (nE ?_ (nE ?_ (nE ?_ ?_)))))))
 .split seen ((recsOf bs).map (·.name)) (ownsOf bs) [] {ki A.params b with gens:=(gn [])}=expectedOf bs
  rfl'
 .split (ki A.params b).heap.bltView=bltViewBooted;rfl'
 .rfl'
 .split tabsOk bs (ki A.params b)=L;rfl'
 .rfl'
 .rfl'
 .rfl'
 .rfl'
 .rfl'
def kS(P:c'):bj:= #[(qQ P).toArray,{}]
theorem U1:LeftO kw.prog bs xT (λa=>L) (λD=>D.heap) (λA=>kS A.params) 10000:=
 LeftO.of_pieces (m₀:=11) (ann:=I ⇑6) (H₁:=kS) (gs₁:=tu []) (d₁:=v1) (k₁:=1413) W6 aa6 ZK ()
  (λA=>funext λb=>nE (by
    split (staticsOk (M_ aZ.main.body) (o3 A.params) (ki A.params b).heap&&namesBound aZ (ki A.params b).heap&&gensDone (ki A.params b)&&laidKept (o3 A.params) (ki A.params b).heap)=L;rw[Vp,Vq,Vr,Vs];rfl)
   (nE (Vt A b) j))
abbrev e5:OpenLaw:=vV
theorem ahy:True:=trivial
abbrev g':OpenLaw:=vV
theorem OW: ↥(g'.foot<=(agw g'.prog).length)=L:= #[]
theorem OX:zm g'.footing Fast.tw10501279942588096481=L:= #[]
theorem OY:Fast.tw8179353310426384613 g'.prog g'.footing=L:= #[]
theorem O1:MX {strict:=L,foot:=I (Fast.tw797321630700447069 g'),writes:=g'.writes,may:=Fast.tw9572597257264208301 g'} g'.footing=L:= #[]
theorem O2:Fast.tw9558739934217749035 g'.about g'.above=L:= #[]
theorem O3:Fast.tw16286561074155671207 g'=L:= #[]
theorem O4:(zm (Fast.tw10792542408131684335 g') λU=> !Fast.qNamed U)=L:= #[]
theorem kQ:(Fast.tw11788848310118352699 aZ.main&&((agv aZ.main.body).isEmpty||Fast.tw12862048085361865435 (agv aZ.main.body) aZ.main.body))=L:= #[]
theorem dO:Fast.tw8377067652309620493 aZ=L:= #[]
theorem P9:(zm (Fast.tw18344453789297297638 aZ) λU=> !MW Fast.tw14412699480532031325 U)=L:= #[]
theorem Qa:zk aZ aZ.main.body #[#[[118,97,114,115]]]=ak:= #[]
theorem Qb:zk aZ aZ.main.body #[#[[100,105,114]]]=ak:= #[]
theorem Qc:zk aZ aZ.main.body #[#[[108,111,99,97,108,115]]]=ak:= #[]
theorem Rs{c:Type}{v:c->Bool}{E y g:c}(f:v E=ak)(o:v y=ak)(M:v g=ak):ahp v [E,y,g]=[]:=by simp only[ahp,f,o,M]
theorem Qd:R.filterR (zk aZ aZ.main.body) [#[#[[118,97,114,115]]],#[#[[100,105,114]]],#[#[[108,111,99,97,108,115]]]]=[]:=by rw[<-R.filterR_eq];show Rs Qa Qb Qc
theorem P_:MX {strict:=ak,foot:=au,bare:=[]} aZ.main.body=L:= #[]
theorem Qe:(!zm (agu aZ.main.body) (MW agr))=ak:= #[]
theorem P':MX {strict:= !zm (agu aZ.main.body) (MW agr),foot:=au,bare:=R.filterR (zk aZ aZ.main.body) [#[#[[118,97,114,115]]],#[#[[100,105,114]]],#[#[[108,111,99,97,108,115]]]]} aZ.main.body=L:=by rw[Qd,Qe];show P_
theorem Qf:(Fast.tw17119622794617984870 aZ aZ.main.body λa U=>Fast.tw17868728402115742887 U)=L:= #[]
theorem Vz:Fast.tw12908688711261696721 aZ=L:=Eh (Eh (Eh (Eh kQ dO) P9) P') Qf
theorem Xr:agt (MU g')=L:=by let Q:(MU g').prog=aZ:=j;delta agt;rw[Q,Vz];rfl'
theorem OV:ags (MU g')=L:=by delta ags;rw[Xr];rfl'
theorem O0:(afP (λU=> ↥(2^63<=U)) g'.bound)=L:= #[]
theorem OZ:(afP (λU=> ↥(63<=U)) g'.most)=L:= #[]
theorem aao:vV.wellSaid=L:=by rw[ahZ];delta ah0;simp only[OV,OW,OX,OY,OZ,O0,O1,O2,O3,O4,Mq,zh];rfl'
def qt:DefRec:= #["law",(T 180).args,(T 180).body,(T 180).scope,#[921,0,935,15]]
theorem Qm:defOf bs kw.name=I (qt,[]):= #[]
theorem aca:kw.prog.theDef kw.name=I (qt.params,qt.body,qt.scope):= #[]
theorem UL:kwWritten? qt.params.kwonlyargs qt.params.kw_defaults=I []:= #[]
theorem aeN:kw.prog.tablesWhole=L:= #[]
theorem ab4:M0 aZ=L:= #[]
theorem WX:(chainsOk bs&&M0 kw.prog&&(frees kw.toRowW&&kw.within.isEmpty))=L:=by rw[show M0 kw.prog=L from ab4];rfl'
theorem Oo:kw.prog.bare:= #[j,j,j,j,j,aeN]
theorem X6:kw.toRowW.promised:= #[[WData.list [Ef 5]],by decide+kernel,by decide+kernel]
def Kept(A:eO)(z:bj):Prop:=∀b o,(kS A.params).get? b=I o->z.get? b=I o
theorem Tn(a:WalkO bs xT (λb b=>True) Kept kw.toRowW qt [] λt O=>PySem.call t O):vV.Holds:=
 holds_law aao λn=>holds_open (XP:=λb b=>True) (YP:=Kept) (r:=kw) U1 (λA D Q=>by
   intro y d z;let J:D.heap=kS A.params:=Q;rw[J];show z)
  (λA z N e p y d Q=>p y d (e y d Q)) (λb b=>trivial) (λb b b b b=>trivial) Qm aca UL (λD b=>recFacts_nil j) j n WX Oo X6 a
@[elab_as_elim] theorem wL{c:Sort _}{a y:c}{ot:c->Prop}(z:a=y)(m:ot y):ot a:=z▸m
@[elab_as_elim] theorem OU{c:Sort _}{E y:c}{ot:c->Prop}(z:E=y)(m:ot E):ot y:=z▸m
open Lean in
local macro_rules (kind:=Lean.Parser.Tactic.cases)|s=>do
 let i:="A.1 induction.5 a 0 N."
 let x:="A.1 exact.2 a F.2 "
 let y:=" F.2 Eq.symm 2 "
 let b:=s[3].isNone
 mz ("first.2 a N."++(if b then "27 " else "23 ")++i++"2 a "++(".casesOn N.0 1 "++i++"2 a ").intercalate ("Option Bool List Nat Mine.V Mine.O PySem.Expr Mine.bP Or PySem.Const Mine.ah Mine.cr Mine.bc Except PySem.Operator PySem.CmpOp Mine.hN PySem.Stmt Mine.bl Int Mine.kK".splitOn " ")++".casesOn N.0 1 "++(if b then x++"cY 2 "++x++"cY"++y++x++"db 2 "++x++"db"++y++"A.1 «tactic_<;>_».3 injection.3 a 2 N.0 a done.1 a " else i++"0 N.0 1 ")++"A.1 fail.2 a N.0") [s[1],s[3],s[1][0][1]]
open Lean in
local macro_rules (kind:=Lean.Parser.Tactic.rwSeq)|s=>do
 let a:=s[2][1].getArgs
 let c(x:Array Syntax):=s.setArg 2 (s[2].setArg 1 (mkNullNode x))
 if a.size>1 then mz "B.3 0 a 1" [c (a.take 1),c (a.drop 2)] else
 let r:=a[0]![0].isNone
 let l:=s[3][0][1][0]
 let d(x:Array Syntax):=s.setArg 3 (mkNullNode (.mk [s[3][0].setArg 1 (s[3][0][1].setArg 0 (mkNullNode x))]))
 if l.getNumArgs>1 then mz "B.3 0 a 1" [d (l.getArgs.take 1),d (l.getArgs.drop 1)] else
 let x:="refine.2 a F.3 "++if r then "wL " else "OU "
 mz (if s[3].isNone then "B.3 first.2 a N.3 A.1 "++x++"0 Q.0 A.1 withReducibleAndInstances.2 a S.1 "++x++"F.2 0 Term.ellipsis.1 a Q.0 A.1 fail.2 a N.0 a tacticTry_.2 a S.1 withReducible.2 a S.1 tacticRfl.1 a" else if r&&l[0].isIdent then "first.2 a N.2 A.1 B.5 refine.2 a F.2 H.1 R.1 Term.hole.1 a Term.subst.3 0 a N.1 1 a clear.2 a N.1 1 a intro.2 a N.1 1 A.1 fail.2 a N.0" else "fail.2 a N.0") [a[0]![1],l[0]]
open Lean in
local macro_rules (kind:=Lean.Parser.Tactic.injections)|s=>do
 let r(x:String):=(if s[1].getNumArgs=1 then "" else "B.3 tacticHave__.3 a Term.letConfig.1 N.0 Term.letDecl.1 Term.letIdDecl.5 Term.letId.1 "++x++" N.0 N.0 a F.2 Eq.symm "++x++" a ")++"subst.2 a N.1 "++x++" "
 let i(y:String):="injection.3 a 0 N.2 a N."++y++" a "
 let j:=r "h1"++"a "++r "h2"
 mz ("first.2 a N.5 A.1 "++r "0"++"A.1 B.11 "++i "1 0"++i "2 h1 0"++i "2 h2 h3"++j++"a "++r "h3"++"A.1 B.7 "++i "1 0"++i "2 h1 h2"++j++"A.1 B.5 "++i "2 h1 h2"++j++"A.1 B.3 "++i "1 h1"++r "h1") [s[1][0]]
open Lean in
local macro_rules (kind:=Lean.Parser.Tactic.obtain)|s=>do
 let m:=s[1][0]
 let t:=m[0][0]
 let h:=s[3][1][0]
 let a:=t[1].getArgs
 let f:=" A.1 fail.2 a N.0"
 let c(x:Syntax)(i:String):String×Syntax:=
  let y:=x[0][0]
  if x[0].getNumArgs=1&&y.getKind==``Parser.Tactic.rcasesPat.one&&y[0].getId != `rfl then ("intro.2 a N.1 "++i,y[0])
  else ("B.3 intro.2 a N.1 zs a obtain.4 a N.1 "++i++" N.0 N.2 a N.1 zs",x)
 if m[0].getNumArgs=1&&t.getKind==``Parser.Tactic.rcasesPat.tuple&&a.size>1&&s[2].isNone&&s[3].getNumArgs=2 then
  let x:=c a[0]![0] "1"
  let y:=c (if a.size=3 then a[2]![0] else m.setArg 0 (mkNullNode (.mk [t.setArg 1 (mkNullNode (a.drop 2))]))) "2"
  if h.isIdent then mz ("first.2 a N.2 A.1 B.7 first.2 a N.2 A.1 refine.2 a F.3 H.1 R.1 R.1 Term.hole.1 a F.2 And.left 0 F.2 And.right 0 A.1 refine.2 a F.3 Exists.elim 0 Q.0 a tacticTry_.2 a S.1 clear.2 a N.1 0 a "++x.1++" a "++y.1++f) [h,x.2,y.2]
  else mz ("first.2 a N.2 A.1 B.5 refine.2 a F.2 H.1 R.1 Term.hole.1 a 0 a intro.2 a N.1 zt a obtain.4 a N.1 1 N.0 N.2 a N.1 zt"++f) [h,m]
 else mz "fail.2 a N.0" []
set_option tactic.hygienic false
inductive V where
 |none
 |bool (b:Bool)
 |int (i:Int)
 |str (s:Str)
 |J (vs:List V)
 |ref (n:Nat)
 |C (k:Nat)
inductive O where
 |list (vs:List V)
 |aX (es:List (Str×V))
 |id (es:List (Int×V))
 |ef (es:List (V×V))
 |inst (c:Nat) (d:Nat)
abbrev aG:=List O
inductive bA(c:Type) where
 |ok (a:c) (D:aG)
 |exc (D:aG)
 |ab
def M(c:Type):Type:=aG->bA c
namespace M
def N{c:Type}(a:c):M c:=λp=>.ok a p
def ab{c:Type}:M c:=λa=>.ab
def raise{c:Type}:M c:=λp=>.exc p
def G{c h:Type}(m:M c)(f:c->M h):M h:=λp=>match m p with
 |.ok a y=>f a y
 |.exc y=>.exc y
 |.ab=>.ab
def get{c:Type}(f:aG->M c):M c:=λp=>f p p
def new(o:O):M Nat:=λp=>.ok p.length (p++[o])
def put(U:Nat)(o:O):M Unit:=λp=>.ok bL (p.set U o)
def opt{c:Type}:Option c->M c
 |some a=>M.N a
 |none=>M.ab
end M
def b_(a b:Str):Bool:=Fast.lEq a.cps.toList b.cps.toList
def aT{c:Type}(x:Str):List (Str×c)->Option c
 |[]=>au
 |(e,B)::q=>match b_ x e with
  |true=>I B
  |false=>aT x q
def put{c:Type}(x:Str)(v:c):List (Str×c)->List (Str×c)
 |[]=>[(x,v)]
 |(e,a)::q=>match b_ x e with
  |true=>(e,v)::q
  |false=>(e,a)::put x v q
def d4{c:Type}(x:Int):List (Int×c)->Option c
 |[]=>au
 |(e,B)::q=>match↥(x=e) with
  |true=>I B
  |false=>d4 x q
def d'{c:Type}(x:Int)(B:c):List (Int×c)->List (Int×c)
 |[]=>[(x,B)]
 |(e,a)::q=>match↥(x=e) with
  |true=>(e,B)::q
  |false=>(e,a)::d' x B q
abbrev ap:=List (Str×V)
def dx(C:List O)(p:aG):V->Option O
 | ⇑U=>p[U]?
 |.C k=>C[k]?
 |_=>au
def OA:Nat:=4000000
def pq:Int:=1000000000000000000000000000000
def c7(i:Int):Bool:= ↥(-pq<i)&& ↥(i<pq)
def aU(U:Nat):Bool:=b' U OA
def pk(A:qb)(a b:Int):Option Int:=match A with
 |.Add=>I (a+b)
 |.Sub=>I (a-b)
 |.Mult=>match c7 a&&c7 b with
  |true=>I (a*b)
  |false=>au
 |.FloorDiv=>match c7 a&&c7 b&& !↥(b=0) with
  |true=>I (a.fdiv b)
  |false=>au
 |.Mod=>match↥(b=0) with
  |true=>au
  |false=>I (a.fmod b)
 |_=>au
def bQ(C:List O)(A:qb)(a b:V):M V:=match a,b with
 | ↑a,↑b=>M.opt ((pk A a b).map .int)
 |.str a,.str b=>match A with
  |.Add=>match aU (a.cps.size+b.cps.size) with
   |true=>M.N (.str (a++b))
   |false=>M.ab
  |_=>M.ab
 |.J a,.J b=>match A with
  |.Add=>match aU (a.length+b.length) with
   |true=>M.N (.J (a++b))
   |false=>M.ab
  |_=>M.ab
 | ⇑x,⇑e=>match A with
  |.Add=>M.get λp=>match dx C p ⇑x,dx C p ⇑e with
   |some (.list a),I (.list b)=>match aU (a.length+b.length) with
    |true=>(M.new (.list (a++b))).G λU=>M.N ⇑U
    |false=>M.ab
   |_,_=>M.ab
  |_=>M.ab
 | ⇑x,↑k=>match A with
  |.Mult=>M.get λp=>match dx C p ⇑x with
   |some (.list [B])=>match↥(0<=k)&&aU k.toNat with
    |true=>(M.new (.list (lV k.toNat B))).G λU=>M.N ⇑U
    |false=>M.ab
   |_=>M.ab
  |_=>M.ab
 |_,_=>M.ab
def gO(f:V->Option f2):List V->Option (List f2)
 |[]=>I []
 |B::q=>match f B,gO f q with
  |some x,I i=>I (x::i)
  |_,_=>au
def fc(p:aG):Nat->V->Option f2
 |0,_=>au
 |U+1,B=>match B with
  |.none=>I .none
  |.bool b=>I (.bool b)
  | ↑i=>I ↑i
  |.str x=>match gp x with
   |true=>I (.str x)
   |false=>au
  |.J O=>(gO (fc p U) O).map .tuple
  | ⇑m=>match p[m]? with
   |some (.list O)=>(gO (fc p U) O).map .list
   |_=>au
  |.C _=>au
def hx(p:aG)(a b:V):Option Bool:=match fc p 60 a,fc p 60 b with
 |some x,I e=>I (gB x e)
 |_,_=>au
def bh(C:List O)(A:mM)(a b:V):M Bool:=M.get λp=>match A with
 |.Eq=>M.opt (hx p a b)
 |.NotEq=>M.opt ((hx p a b).map not)
 |.Lt=>match a,b with| ↑a,↑b=>M.N ↥(a<b)|_,_=>M.ab
 |.LtE=>match a,b with| ↑a,↑b=>M.N ↥(a<=b)|_,_=>M.ab
 |.Gt=>match a,b with| ↑a,↑b=>M.N ↥(b<a)|_,_=>M.ab
 |.GtE=>match a,b with| ↑a,↑b=>M.N ↥(b<=a)|_,_=>M.ab
 |.Is=>match b with
  |.none=>match a with|.none=>M.N L|_=>M.N ak
  |_=>M.ab
 |.IsNot=>match b with
  |.none=>match a with|.none=>M.N ak|_=>M.N L
  |_=>M.ab
 |.In=>match a,dx C p b with
  | ↑i,I (.id es)=>M.N (d4 i es).isSome
  |_,_=>M.ab
 |.NotIn=>M.ab
def dp(C:List O)(B:V):M Bool:=match B with
 |.none=>M.N ak
 |.bool b=>M.N b
 | ↑i=>M.N (!↥(i=0))
 |.str s=>match aU s.cps.size with
  |true=>M.N (!cA s.cps.size 0)
  |false=>M.ab
 |_=>M.ab
def wU:Const->M V
 |.none=>M.N .none
 |.bool b=>M.N (.bool b)
 | ↑i=>M.N ↑i
 |.str s=>M.N (.str s)
 |_=>M.ab
def aJ(C:List O)(o i:V):M V:=M.get λp=>match i with
 | ↑k=>match o with
  |.J a=>match↥(0<=k)&&aU k.toNat with
   |true=>M.opt a[k.toNat]?
   |false=>M.ab
  | ⇑U=>match dx C p ⇑U with
   |some (.list a)=>match↥(0<=k)&&aU k.toNat with
    |true=>M.opt a[k.toNat]?
    |false=>M.ab
   |some (.id es)=>M.opt (d4 k es)
   |_=>M.ab
  |_=>M.ab
 |.str x=>match o with
  | ⇑U=>match dx C p ⇑U with
   |some (.aX es)=>M.opt (aT x es)
   |_=>M.ab
  |_=>M.ab
 |_=>M.ab
def hV(B J:Option Int)(O:List V):Option (List V):=
 match↥(0<=B.getD 0),↥(0<=J.getD 0) with
 |true,L=>I ((match J with|some z=>O.take z.toNat|none=>O).drop (B.getD 0).toNat)
 |_,_=>au
def fI:Option V->Option (Option Int)
 |none=>I au
 |some .none=>I au
 |some ↑i=>match c7 i with
  |true=>I (I i)
  |false=>au
 |_=>au
def gy(C:List O)(o:V)(B b:Option V):M V:=M.get λp=>match fI B,fI b with
 |some B,I b=>match o with
  |.J a=>match aU a.length with
   |true=>match hV B b a with
    |some q=>M.N (.J q)
    |none=>M.ab
   |false=>M.ab
  |o=>match dx C p o with
   |some (.list a)=>match aU a.length with
    |true=>match hV B b a with
     |some q=>(M.new (.list q)).G λU=>M.N ⇑U
     |none=>M.ab
    |false=>M.ab
   |_=>M.ab
 |_,_=>M.ab
def pn:List Str:=["rows","index","depths","weights","opens","kt","count"]
def m9(x:Str):List Str->Bool
 |[]=>ak
 |e::q=>match b_ x e with
  |true=>L
  |false=>m9 x q
def mY(C:List O)(o:V)(a:Str):M V:=M.get λp=>match m9 a pn,o with
 |true,⇑U=>match p[U]? with
  |some (.inst _ x)=>match p[x]? with
   |some (.aX es)=>M.opt (aT a es)
   |_=>M.ab
  |_=>M.ab
 |_,_=>M.ab
def oF(o:V)(a:Str)(B:V):M Unit:=M.get λp=>match m9 a pn,o with
 |true,⇑U=>match p[U]? with
  |some (.inst _ x)=>match p[x]? with
   |some (.aX es)=>match b' es.length 900 with
    |true=>M.put x (.aX (put a B es))
    |false=>M.ab
   |_=>M.ab
  |_=>M.ab
 |_,_=>M.ab
def dw:Nat->V->Option Int
 |0,_=>au
 |U+1,B=>match B with
  | ↑i=>I (Eo i)
  |.J O=>match hashes U O with
   |some h=>I (Es (nF h))
   |none=>au
  |_=>au
where
 hashes:Nat->List V->Option (List Int)
 |0,_=>au
 |U+1,O=>match O with
  |[]=>I []
  |B::q=>match dw U B,hashes U q with
   |some z,I h=>I (z::h)
   |_,_=>au
def jQ(z:Int):List (V×V)->Bool
 |[]=>L
 |(k,_)::q=>match dw 9 k with
  |some N=>match↥(N=z) with
   |true=>ak
   |false=>jQ z q
  |none=>ak
def dd(C:List O)(o i B:V):M Unit:=M.get λp=>match o with
 | ⇑U=>match i,p[U]? with
  | ↑k,I (.list a)=>match↥(0<=k)&&i7 k.toNat a.length&&aU k.toNat with
   |true=>M.put U (.list (a.set k.toNat B))
   |false=>M.ab
  | ↑k,I (.id es)=>match aU es.length with
   |true=>M.put U (.id (d' k B es))
   |false=>M.ab
  | ↑k,I (.aX [])=>M.put U (.id [(k,B)])
  |.str x,I (.aX es)=>match aU es.length with
   |true=>M.put U (.aX (put x B es))
   |false=>M.ab
  |.J H,I (.aX [])=>match dw 9 (.J H) with
   |some _=>M.put U (.ef [(.J H,B)])
   |none=>M.ab
  |.J H,I (.ef es)=>match dw 9 (.J H) with
   |some z=>match jQ z es&&aU es.length with
    |true=>M.put U (.ef (es++[(.J H,B)]))
    |false=>M.ab
   |none=>M.ab
  |_,_=>M.ab
 |_=>M.ab
def kT(C:List O)(o k Q:V):M V:=M.get λp=>match k,dx C p o with
 | ↑k,I (.id es)=>M.N ((d4 k es).getD Q)
 |.str x,I (.aX es)=>M.N ((aT x es).getD Q)
 |.J _,I (.aX [])=>match dw 9 k with
  |some _=>M.N Q
  |none=>M.ab
 |.J _,I (.ef es)=>match dw 9 k with
  |some z=>match jQ z es with
   |true=>M.N Q
   |false=>M.ab
  |none=>M.ab
 |_,_=>M.ab
def e_(o:V):M V:=M.get λp=>match o with
 |.J O=>match aU O.length with
  |true=>M.N ↑O.length
  |false=>M.ab
 | ⇑U=>match p[U]? with
  |some (.list O)=>match aU O.length with
   |true=>M.N ↑O.length
   |false=>M.ab
  |some (.id es)=>match aU es.length with
   |true=>M.N ↑es.length
   |false=>M.ab
  |some (.aX es)=>match aU es.length with
   |true=>M.N ↑es.length
   |false=>M.ab
  |_=>M.ab
 |_=>M.ab
def uK(o:V):M (List V):=M.get λp=>match o with
 |.J O=>M.N O
 | ⇑U=>match p[U]? with
  |some (.list O)=>M.N O
  |_=>M.ab
 |_=>M.ab
def l2(o B:V):M Unit:=M.get λp=>match o with
 | ⇑U=>match p[U]? with
  |some (.list O)=>match aU O.length with
   |true=>M.put U (.list (O++[B]))
   |false=>M.ab
  |_=>M.ab
 |_=>M.ab
def sg(o B:V):M Unit:=M.get λp=>match o,B with
 | ⇑U,.J u=>match p[U]? with
  |some (.list O)=>match aU (O.length+u.length) with
   |true=>M.put U (.list (O++u))
   |false=>M.ab
  |_=>M.ab
 |_,_=>M.ab
def rf(B:V):M V:=match B with
 | ↑i=>match c7 i with
  |true=>M.N (.str (j6 (toString i)))
  |false=>M.ab
 |_=>M.ab
inductive bl where
 |next (Y:ap)
 |ret (v:V)
def wS(x:Str):Option Nat:=match b_ x "KindTable" with
 |true=>I 0
 |false=>match b_ x "Splitter" with
  |true=>I 1
  |false=>au
def xA:Nat->Str
 |0=>"KindTable.__init__"
 |_=>"Splitter.__init__"
def pM:List (Nat×Str×Str):=[(0,"put","KindTable.put"),(0,"row","KindTable.row"),(1,"slot","Splitter.slot")]
def nj(g:Nat)(m:Str):List (Nat×Str×Str)->Option Str
 |[]=>au
 |(x,U,l)::q=>match cA g x&&b_ m U with
  |true=>I l
  |false=>nj g m q
structure b5 where
 C:List O
 gt:List (Str×V)
 ag:Str->List V->M V
 fn:Str->Bool
 aM:Bool
 sc:gS
def jk(x:Str):Bool:=match b_ x "__debug__" with
 |true=>ak
 |false=>match b_ x "__classdict__" with
  |true=>ak
  |false=>L
def m_(C:gS)(x:Str):Bool:=match aT x C.names with
 |some .globalImplicit=>jk x
 |_=>ak
def sn(g:b5)(Y:ap)(x:Str):M V:=match jk x with
 |true=>match aT x Y with
  |some B=>M.N B
  |none=>match m_ g.sc x with
   |true=>M.opt (aT x g.gt)
   |false=>M.ab
 |false=>M.ab
def eU(g:b5)(Y:ap)(x:Str):Bool:=(aT x Y).isNone&&(aT x g.gt).isNone&&m_ g.sc x
def f6(C:gS)(x:Str):Bool:=match aT x C.names with
 |some .local=>L
 |_=>ak
def jM(f:V->ap->M bl):List V->ap->M bl
 |[],Y=>M.N (.next Y)
 |B::O,Y=>(f B Y).G λ
  |.next u=>jM f O u
  |.ret B=>M.N (.ret B)
def jL(f:V->ap->M bl)(U:Nat):Nat->Nat->ap->M bl
 |0,i,Y=>M.get λp=>match p[U]? with
  |some (.list O)=>match b' O.length i with
   |true=>M.N (.next Y)
   |false=>M.ab
  |_=>M.ab
 |k+1,i,Y=>M.get λp=>match p[U]? with
  |some (.list O)=>match O[i]? with
   |some B=>(f B Y).G λ
    |.next u=>jL f U k (i+1) u
    |.ret B=>M.N (.ret B)
   |none=>M.N (.next Y)
  |_=>M.ab
def ji(f:V->ap->M bl)(U:Nat)(H:List Int):List Int->ap->M bl
 |[],Y=>M.get λp=>match p[U]? with
  |some (.id es)=>match↥(es.map (·.1)=H) with
   |true=>M.N (.next Y)
   |false=>M.ab
  |_=>M.ab
 |k::q,Y=>M.get λp=>match p[U]? with
  |some (.id es)=>match↥(es.map (·.1)=H) with
   |true=>(f ↑k Y).G λ
    |.next u=>ji f U H q u
    |.ret B=>M.N (.ret B)
   |false=>M.ab
  |_=>M.ab
def lC(f:V->M V):List V->M (List V)
 |[]=>M.N []
 |B::O=>(f B).G λx=>(lC f O).G λxs=>M.N (x::xs)
def jj(f:V->M V)(U:Nat):Nat->Nat->M (List V)
 |0,i=>M.get λp=>match p[U]? with
  |some (.list O)=>match b' O.length i with
   |true=>M.N []
   |false=>M.ab
  |_=>M.ab
 |k+1,i=>M.get λp=>match p[U]? with
  |some (.list O)=>match O[i]? with
   |some B=>(f B).G λx=>(jj f U k (i+1)).G λxs=>M.N (x::xs)
   |none=>M.N []
  |_=>M.ab
inductive gs where
 |vs (l:List V)
 |kZ (n h:Nat)
def nu(B:V):M gs:=M.get λp=>match B with
 |.J O=>match aU O.length with
  |true=>M.N (.vs O)
  |false=>M.ab
 | ⇑U=>match p[U]? with
  |some (.list O)=>match aU O.length with
   |true=>M.N (.kZ U O.length)
   |false=>M.ab
  |_=>M.ab
 |_=>M.ab
def uE(C:gS)(x:Str):Bool:=match aT x C.names with
 |some .cell=>L
 |_=>ak
def jE(C:gS)(Y:ap):List (Str×gz)->Bool
 |[]=>L
 |(x,.free)::q=>uE C x&&(aT x Y).isSome&&jE C Y q
 |(_,.cell)::_=>ak
 |(_,_)::q=>jE C Y q
def mj(b:List (Str×gz)):List (Str×gz)->Bool
 |[]=>L
 |(x,.local)::q=>(match aT x b with|some .local=>L|_=>ak)&&mj b q
 |_::q=>mj b q
def kV(C:gS):Bool:=match C.kind with
 |.function=>L
 |_=>ak
def lO(k:Int):List V:=(DZ k.toNat).map λ(i:Nat)=>V.int (rJ i)
def i1:aW->Option aW
 |.Call (.Name x _) [Q] [] _=>match b_ x "range" with
  |true=>I Q
  |false=>au
 |_=>au
def uH(x:Str):aW->Bool
 |.Name e _=>b_ e x
 |_=>ak
def freeOf(C:gS)(Y:ap):ap:=Y.filter λv=>match aT v.1 C.names with
 |some .free=>L
 |_=>ak
def LA:V->Option Str
 |.str s=>I s
 |_=>au
def km:List (V×V)->Option (List (Str×V))
 |[]=>I []
 |(k,B)::l=>match LA k,km l with
  |some s,I q=>match(aT s q).isNone with
   |true=>I ((s,B)::q)
   |false=>au
  |_,_=>au
def nt{c:Type}:List (Option c)->Option (List c)
 |[]=>I []
 |some a::q=>match nt q with
  |some l=>I (a::l)
  |none=>au
 |none::_=>au
def eW(B:V):M (List V):=match B with
 | ↑k=>match↥(-1000000<k)&& ↥(k<1000000) with
  |true=>M.N (lO k)
  |false=>M.ab
 |_=>M.ab
def vl(x:Str):Bool:=x.cps.toList.all λU=> !cA U 46
inductive mP where
 |len
 |J
 |lst
 |str
 |cls (k:Nat)
 |fn
def qs(g:b5)(x:Str):Option mP:=match b_ x "len" with
 |true=>I .len
 |false=>match b_ x "tuple" with
  |true=>I .J
  |false=>match b_ x "list" with
   |true=>I .lst
   |false=>match b_ x "str" with
    |true=>I .str
    |false=>match wS x with
     |some k=>I (.cls k)
     |none=>match vl x&&g.fn x with
      |true=>I .fn
      |false=>au
def pu(g:b5)(x:Str)(k:mP)(O:List V):M V:=match k,O with
 |.len,[B]=>e_ B
 |.J,[B]=>(uK B).G λl=>match aU l.length with
  |true=>M.N (.J l)
  |false=>M.ab
 |.lst,[.J l]=>match aU l.length with
  |true=>(M.new (.list l)).G λU=>M.N ⇑U
  |false=>M.ab
 |.str,[B]=>rf B
 |.cls k,O=>(M.new (.aX [])).G λa=>(M.new (.inst k a)).G λU=>(g.ag (xA k) (⇑U::O)).G λ
  |.none=>M.N ⇑U
  |_=>M.ab
 |.fn,O=>g.ag x O
 |_,_=>M.ab
inductive hN where
 |app
 |ext
 |get
 |lP (q:Str)
def e'(C:List O)(o:V)(m:Str):M hN:=M.get λp=>match b_ m "append" with
 |true=>match o with
  | ⇑U=>match p[U]? with
   |some (.list _)=>M.N .app
   |_=>M.ab
  |_=>M.ab
 |false=>match b_ m "extend" with
  |true=>match o with
   | ⇑U=>match p[U]? with
    |some (.list _)=>M.N .ext
    |_=>M.ab
   |_=>M.ab
  |false=>match b_ m "get" with
   |true=>match dx C p o with
    |some (.aX _)=>M.N .get
    |some (.id _)=>M.N .get
    |some (.ef _)=>M.N .get
    |_=>M.ab
   |false=>match o with
    | ⇑U=>match p[U]? with
     |some (.inst k x)=>match p[x]?,nj k m pM with
      |some (.aX es),I l=>match(aT m es).isNone with
       |true=>M.N (.lP l)
       |false=>M.ab
      |_,_=>M.ab
     |_=>M.ab
    |_=>M.ab
def k1(g:b5)(o:V)(m:hN)(O:List V):M V:=match m,O with
 |.app,[B]=>(l2 o B).G λa=>M.N .none
 |.ext,[B]=>(sg o B).G λa=>M.N .none
 |.get,[k,Q]=>kT g.C o k Q
 |.lP l,O=>g.ag l (o::O)
 |_,_=>M.ab
def gK(Q:aW):Bool:= !cA Q.ctorIdx 7
def vc(Q:aW):Bool:= !cA Q.ctorIdx 22
def fo:List aW->Bool
 |[]=>L
 |Q::q=>vc Q&&fo q
def pT:aW->Bool
 |.Call _ [] [] _=>ak
 |_=>L
def ye(u pos:Pos)(z:List aW):Bool:=cA u.endLine pos.line&&i7 z.length 30
mutual
noncomputable def ev(c:b5):Nat->aW->ap->M V
 |0,_,_=>M.ab
 |n+1,e,Y=>match e with
  |.Constant k _ _=>wU k
  |.Name x _=>sn c Y x
  |.BinOp l A r _=>(ev c n l Y).G λa=>(ev c n r Y).G λb=>bQ c.C A a b
  |.UnaryOp .Not x _=>(ev c n x Y).G λa=>(dp c.C a).G λb=>M.N (.bool !b)
  |.UnaryOp .USub x _=>(ev c n x Y).G λa=>match a with
   | ↑i=>M.N ↑(-i)
   |_=>M.ab
  |.BoolOp A es _=>pz c n A es Y
  |.IfExp t a b _=>(gP c n t Y).G λq=>match q with
   |true=>ev c n a Y
   |false=>ev c n b Y
  |.Compare l [A] [r] _=>match gK r with
   |true=>(ev c n l Y).G λa=>(ev c n r Y).G λb=>(bh c.C A a b).G λq=>M.N (.bool q)
   |false=>M.ab
  |.Tuple es _ _=>(jD c n es Y).G λvs=>match aU vs.length with
   |true=>M.N (.J vs)
   |false=>M.ab
  |.List es _=>(jD c n es Y).G λvs=>match aU vs.length with
   |true=>(M.new (.list vs)).G λi=>M.N ⇑i
   |false=>M.ab
  |.Dict aa es _=>match nt aa,b' aa.length 15&&cA aa.length es.length with
   |some aa,L=>(l8 c n aa es Y).G λkvs=>match km kvs with
    |some es=>(M.new (.aX es)).G λi=>M.N ⇑i
    |none=>M.ab
   |_,_=>M.ab
  |.Subscript v (.Slice B d au _) _=>(ev c n v Y).G λo=>(qB c n B Y).G λl=>(qB c n d Y).G λh=>gy c.C o l h
  |.Subscript v i _=>(ev c n v Y).G λo=>(ev c n i Y).G λk=>aJ c.C o k
  |.Attribute v a _=>match pT v with
   |true=>(ev c n v Y).G λo=>mY c.C o a
   |false=>M.ab
  |.Call (.Name x _) z [] _=>match eU c Y x&&fo z with
   |true=>match b_ x "isinstance",z with
    |true,[e,t]=>match uH "tuple" t&&eU c Y "tuple" with
     |true=>(ev c n e Y).G λv=>match v with
      |.J _=>M.N (.bool L)
      |.none|.bool _|.int _|.str _=>M.N (.bool ak)
      |_=>M.ab
     |false=>M.ab
    |true,_=>M.ab
    |false,z=>match qs c x with
     |some k=>(jD c n z Y).G λvs=>pu c x k vs
     |none=>M.ab
   |false=>M.ab
  |.Call (.Attribute o m u) z [] pos=>match pT o&&fo z&&ye u pos z with
   |true=>(ev c n o Y).G λQ=>(e' c.C Q m).G λk=>(jD c n z Y).G λvs=>k1 c Q k vs
   |false=>M.ab
  |.ListComp dP [#[.Name x _,iter,[],0]] sc _=>match f6 sc x&&jE c.sc Y sc.names&&kV sc&&gK iter&&mj sc.names sc.names,c.aM with
   |true,ak=>(match i1 iter with
     |some e=>match eU c Y "range"&&fo [e] with
      |true=>((ev c n e Y).G λv=>eW v).G λl=>M.N (gs.vs l)
      |false=>M.ab
     |none=>(ev c n iter Y).G nu).G λf=>(match f with
      |.vs l=>lC (λv=>ev {c with sc:=sc} n dP (put x v (freeOf sc Y))) l
      |.kZ i k=>jj (λv=>ev {c with sc:=sc} n dP (put x v (freeOf sc Y))) i k 0).G λvs=>match aU vs.length with
       |true=>(M.new (.list vs)).G λi=>M.N ⇑i
       |false=>M.ab
   |_,_=>M.ab
  |_=>M.ab
noncomputable def gP(c:b5):Nat->aW->ap->M Bool
 |0,_,_=>M.ab
 |n+1,e,Y=>match e with
  |.UnaryOp .Not x _=>(gP c n x Y).G λb=>M.N !b
  |.BoolOp A es _=>nZ c n A es Y
  |.IfExp t a b _=>(gP c n t Y).G λ
   |true=>gP c n a Y
   |false=>gP c n b Y
  |.Compare l [A] [r] _=>match gK r with
   |true=>(ev c n l Y).G λa=>(ev c n r Y).G λb=>bh c.C A a b
   |false=>M.ab
  |.Compare _ _ _ _=>M.ab
  |e=>(ev c n e Y).G λv=>dp c.C v
noncomputable def nZ(c:b5):Nat->tn->List aW->ap->M Bool
 |0,_,_,_=>M.ab
 |n+1,A,es,Y=>match es with
  |[]=>M.N (match A with|.And=>L|.Or=>ak)
  |e::r=>(gP c n e Y).G λb=>match A,b with
   |.And,ak=>M.N ak
   |.Or,L=>M.N L
   |.And,L=>nZ c n .And r Y
   |.Or,ak=>nZ c n .Or r Y
noncomputable def pz(c:b5):Nat->tn->List aW->ap->M V
 |0,_,_,_=>M.ab
 |n+1,A,es,Y=>match es with
  |[]=>M.ab
  |[e]=>ev c n e Y
  |e::r=>(ev c n e Y).G λv=>(dp c.C v).G λb=>match A,b with
   |.And,ak=>M.N v
   |.Or,L=>M.N v
   |.And,L=>pz c n .And r Y
   |.Or,ak=>pz c n .Or r Y
noncomputable def jD(c:b5):Nat->List aW->ap->M (List V)
 |0,_,_=>M.ab
 |n+1,es,Y=>match es with
  |[]=>M.N []
  |e::r=>match vc e with
   |true=>(ev c n e Y).G λv=>(jD c n r Y).G λvs=>M.N (v::vs)
   |false=>M.ab
noncomputable def l8(c:b5):Nat->List aW->List aW->ap->M (List (V×V))
 |0,_,_,_=>M.ab
 |n+1,aa,es,Y=>match aa,es with
  |[],[]=>M.N []
  |k::aa,e::es=>(ev c n k Y).G λg=>(ev c n e Y).G λv=>(l8 c n aa es Y).G λr=>M.N ((g,v)::r)
  |_,_=>M.ab
noncomputable def qB(c:b5):Nat->Option aW->ap->M (Option V)
 |0,_,_=>M.ab
 |n+1,e,Y=>match e with
  |none=>M.N au
  |some e=>(ev c n e Y).G λv=>M.N (I v)
end
def iy(pr:List Str)(x:Str):Bool:=match pr with
 |[]=>L
 |e::q=>match b_ x e with
  |true=>ak
  |false=>iy q x
def qY:List aW->Option (List Str)
 |[]=>I []
 |.Name x _::q=>match qY q with
  |some l=>I (x::l)
  |none=>au
 |_=>au
def sL(pr:List Str)(C:gS):List Str->Bool
 |[]=>L
 |x::q=>iy pr x&&f6 C x&&sL pr C q
def putAll:List Str->List V->ap->Option ap
 |[],[],Y=>I Y
 |x::xs,B::O,Y=>putAll xs O (put x B Y)
 |_,_,_=>au
def hd(pr:List Str)(C:gS)(r:aW)(B:V)(Y:ap):Option ap:=match r with
 |.Name x _=>match iy pr x&&f6 C x with
  |true=>I (put x B Y)
  |false=>au
 |.Tuple q _ _=>match qY q,B with
  |some xs,.J O=>match sL pr C xs with
   |true=>putAll xs O Y
   |false=>au
  |_,_=>au
 |_=>au
def jP:aW->Bool
 |.ListComp _ _ _ _=>ak
 |.SetComp _ _ _ _=>ak
 |.DictComp _ _ _ _ _=>ak
 |_=>L
def Cn(Q:aW):Bool:= !cA Q.ctorIdx 25
def JK:aW->Bool
 |.Slice _ _ _ _=>ak
 |_=>L
def q1(x:Str):List (Str×gz)->Bool
 |[]=>L
 |(e,k)::q=>match b_ e x,k with
  |true,.local=>ak
  |true,.cell=>ak
  |_,_=>q1 x q
def AH(x:Str)(v:Pos):aW->Bool
 |.ListComp _ _ C l=>cA v.line l.line&&q1 x C.names
 |.SetComp _ _ _ _=>ak
 |.DictComp _ _ _ _ _=>ak
 |_=>L
def yv(g:b5)(Y:ap):aW->Bool
 |.Call (.Name x _) [.Constant (.str _) _ _] [] _=>b_ x "ValueError"&&eU g Y x
 |_=>ak
mutual
noncomputable def ex(c:b5):Nat->List Str->dF->ap->M bl
 |0,_,_,_=>M.ab
 |n+1,pr,s,Y=>match s with
  |.Expr e _=>match jP e with
   |true=>(ev c n e Y).G λf=>M.N (.next Y)
   |false=>M.ab
  |.Return (I e) _=>(ev c n e Y).G λv=>M.N (.ret v)
  |.Return au _=>M.N (.ret .none)
  |.Assign [.Name x p] e _=>match iy pr x&&f6 c.sc x&&AH x p e with
   |true=>(ev c n e Y).G λv=>M.N (.next (put x v Y))
   |false=>M.ab
  |.Assign [.Attribute o a _] e _=>match jP e with
   |true=>(ev c n e Y).G λv=>(ev c n o Y).G λQ=>(oF Q a v).G λf=>M.N (.next Y)
   |false=>M.ab
  |.Assign [.Subscript o i _] e _=>match jP e&&JK i with
   |true=>(ev c n e Y).G λv=>(ev c n o Y).G λQ=>(ev c n i Y).G λkk=>(dd c.C Q kk v).G λf=>M.N (.next Y)
   |false=>M.ab
  |.Assign [.Tuple q k p] e _=>match jP e&&Cn e&& !c.aM with
   |true=>(ev c n e Y).G λv=>(M.opt (hd pr c.sc (.Tuple q k p) v Y)).G λu=>M.N (.next u)
   |false=>M.ab
  |.AugAssign (.Name x _) .Add e _=>match jk x,aT x Y with
   |true,I ↑a=>(ev c n e Y).G λv=>match v with
    | ↑b=>match iy pr x&&f6 c.sc x with
     |true=>M.N (.next (put x ↑(a+b) Y))
     |false=>M.ab
    |_=>M.ab
   |_,_=>M.ab
  |.If t a b _=>(gP c n t Y).G λ
   |true=>eF c n pr a Y
   |false=>eF c n pr b Y
  |.For t iter body [] _=>match c.aM,i1 iter with
   |true,_=>M.ab
   |false,I e=>match eU c Y "range"&&fo [e] with
    |true=>((ev c n e Y).G λv=>eW v).G λm=>jM (λv Y=>(M.opt (hd pr c.sc t v Y)).G λu=>eF c n pr body u) m Y
    |false=>M.ab
   |false,au=>match gK iter with
    |false=>M.ab
    |true=>(ev c n iter Y).G λv=>match v with
     |.J vs=>jM (λv Y=>(M.opt (hd pr c.sc t v Y)).G λu=>eF c n pr body u) vs Y
     | ⇑i=>M.get λD=>match D[i]? with
      |some (.list vs)=>jL (λv Y=>(M.opt (hd pr c.sc t v Y)).G λu=>eF c n pr body u) i vs.length 0 Y
      |some (.id es)=>ji (λv Y=>(M.opt (hd pr c.sc t v Y)).G λu=>eF c n pr body u) i (es.map (·.1)) (es.map (·.1)) Y
      |some (.aX [])=>M.N (.next Y)
      |_=>M.ab
     |_=>M.ab
  |.Raise (I e) au _=>match !c.aM&&yv c Y e with
   |true=>M.raise
   |false=>M.ab
  |.Try body [.ExceptHandler (I (.Name x _)) au (h::cz) _] [] [] _=>match b_ x "ValueError"&&eU c Y x&& !c.aM with
   |true=>λD=>match eF c n (pr++Y.map (·.1)) body Y D with
    |.ok r y=>.ok r y
    |.exc y=>eF {c with aM:=L,ag:=λf f=>M.ab} n pr (h::cz) Y y
    |.ab=>.ab
   |false=>M.ab
  |_=>M.ab
noncomputable def eF(c:b5):Nat->List Str->List dF->ap->M bl
 |0,_,_,_=>M.ab
 |n+1,pr,d,Y=>match d with
  |[]=>M.N (.next Y)
  |s::r=>(ex c n pr s Y).G λ
   |.next u=>eF c n pr r u
   |.ret v=>M.N (.ret v)
end
structure ll where
 addr:ay
 d:mR
 qual:Str
 pm:ar
 code:ay
def m1:Nat:=50
def kg:List Arg->List V->Option ap
 |[],[]=>I []
 |a::as,B::O=>match kg as O with
  |some l=>I ((a.arg,B)::l)
  |none=>au
 |_,_=>au
def jo(C:List O)(b:List (Str×V))(a:List (Str×ll)):Nat->Str->List V->M V
 |0,_,_=>M.ab
 |k+1,f,c=>match aT f a with
  |some q=>match kg q.d.args.args c with
   |some Y=>(eF #[C,b,jo C b a k,λx=>(aT x a).isSome,ak,q.d.scope] m1 [] q.d.body Y).G λ
    |.ret B=>M.N B
    |.next _=>M.N .none
   |none=>M.ab
  |none=>M.ab
def oc:List (Str×V):=[("VOID",0),("BOOL",1),("CHAR",2),("I1",3),("U1",4),("I2",5),("U2",6),("I4",7),("U4",8),("I8",9),("U8",10),("NINT",11),("OBJECT",12),("STRING",13),("NULLK",14),("PRIM_END",16),("R_PRIM",1),("R_CLASS",2),("R_VALUE",3),("R_ARRAY",4),("R_BYREF",5),("R_VAR",6),("R_MVAR",7),("R_BOXED",8),("R_ROREF",9),("R_FTN",10),("R_RAW",11),("DEEPEST_KIND",24),("HEAVIEST_KIND",4096),("ARRAY_TID",5),("T_NULLABLE",8),("X_CONST",1),("X_LOCAL",2),("X_THIS",3),("X_FIELD",4),("X_SFIELD",5),("X_ELEM",6),("X_LEN",7),("X_CALL",8),("X_NEW",9),("X_NEWARR",10),("X_ARRLIT",11),("X_UN",13),("X_BIN",14),("X_AND",15),("X_OR",16),("X_COND",17),("X_COALESCE",18),("X_CONV",19),("X_IS",20),("X_AS",21),("X_ASSIGN",22),("X_COMPOUND",23),("X_DELEG",25),("X_CONCAT",26),("X_LIFT",27),("X_LIFTUN",28),("X_AWAIT",30),("X_SEQ",31),("X_HOLE",32),("X_REF",33),("X_PROP",34),("X_BASECTOR",35),("X_FNREF",36),("CV_NUM",1),("CV_REF",2),("CV_CAST",3),("CV_BOX",4),("CV_UNBOX",5),("CV_WRAP",6),("CV_UNWRAP",7),("CV_NULL",8),("S_EXPR",1),("S_BLOCK",3),("S_IF",4),("S_WHILE",5),("S_DO",6),("S_FOR",7),("S_FOREACH",8),("S_SWITCH",9),("S_TRY",14),("S_USING",15),("KS_ONE",1),("KS_MAYBE",2),("KS_ROW",3),("X_SLOT",91),("X_NOTHING",92),("S_CUT",93),("S_HOLD",94),("S_AWAIT",95)].map (λ(v:String×Nat)=>(j6 v.1,V.int v.2))++([("KID_PLACES",.C 0),("STMT_KIDS",.C 1),("TID_PRIM",.C 2)]:List (Str×V))
def si(x:Str)(a:ay)(b:mR)(m:ar):Str×ll:=(x,#[a,b,x,m,a-1])
def xa(m:ar)(l:List (String×Nat×Nat)):List (Str×ll):=l.map λv=>si v.1 v.2.1 (T v.2.2) m
def eG:List (Str×ll):=xa hA [("inner_kinds",90,37),("row_level",97,38),("row_length",104,39),("check_kind_row",111,40),("check_named",118,41),("check_args",125,42),("may_stand",132,43),("is_value",160,47),("is_var",167,48)]++xa oe [("parts_at",263,107),("kids_of",270,108),("with_kids",277,109),("stmt_kids",303,113)]++xa gJ [("has_await",345,123),("mark_cut",352,124),("row_of",359,125),("hold_now",373,127),("fix_target",380,128),("taken_ahead",387,129),("split",401,131),("split_await",408,132),("paired",415,133),("split_choice",429,135),("held_part",450,138),("split_parts",457,139)]++xa dG [("_law_take",464,141),("_law_kinds",471,142),("_law_named",478,143),("_law_leaf",485,144),("_law_int",492,145),("_law_seq",499,146),("_law_ref",506,147),("_law_place",513,148),("_law_new",520,149),("_law_struct",527,150),("_law_object",534,151),("_law_deleg",541,152),("_law_array",546,153),("_law_maybe",553,154),("_law_bool",560,155),("_law_text",567,156),("_law_world",574,157),("_law_note",581,158),("_law_throw",588,159),("_law_put",595,160),("_law_turn",602,161),("_law_answer",609,162),("_law_waited",616,163),("_law_spot",623,164),("_law_run",630,165),("_law_reckon",637,166),("_law_lifted",644,167),("_law_boxed",651,168),("_law_turned",658,169),("_law_slot",665,170),("_law_eval",672,171),("_law_made",677,172),("_law_exec",684,173),("_law_whole",691,174),("_law_waits",698,175),("_law_cuts",705,176),("_law_same",712,177),("_law_drawn",719,178),("_law_fixed",726,179),("law",731,180)]++[si "KindTable.__init__" 62 (mD 36 0) hA,si "KindTable.row" 69 (mD 36 1) hA,si "KindTable.put" 76 (mD 36 2) hA,si "Splitter.__init__" 324 (mD 122 0) gJ,si "Splitter.slot" 331 (mD 122 1) gJ]
def Hy:O:=.id [(4,.J [.J [↑2,↑1]]),(6,.J [.J [↑2,↑1],.J [↑3,↑1]]),(7,.J [.J [↑2,↑1]]),(8,.J [.J [↑2,↑2],.J [↑4,↑3]]),(9,.J [.J [↑3,↑3]]),(10,.J [.J [↑2,↑1]]),(11,.J [.J [↑2,↑3]]),(13,.J [.J [↑3,↑1]]),(14,.J [.J [↑3,↑1],.J [↑4,↑1]]),(15,.J [.J [↑2,↑1],.J [↑3,↑1]]),(16,.J [.J [↑2,↑1],.J [↑3,↑1]]),(17,.J [.J [↑2,↑1],.J [↑3,↑1],.J [↑4,↑1]]),(18,.J [.J [↑2,↑1],.J [↑3,↑1]]),(19,.J [.J [↑2,↑1]]),(20,.J [.J [↑2,↑1]]),(21,.J [.J [↑2,↑1]]),(22,.J [.J [↑2,↑1],.J [↑3,↑1]]),(23,.J [.J [↑2,↑1],.J [↑3,↑1]]),(25,.J [.J [↑2,↑2]]),(26,.J [.J [↑2,↑3]]),(27,.J [.J [↑3,↑1],.J [↑4,↑1]]),(28,.J [.J [↑3,↑1]]),(30,.J [.J [↑2,↑1]]),(31,.J [.J [↑2,↑3],.J [↑3,↑1]]),(33,.J [.J [↑2,↑1]]),(34,.J [.J [↑2,↑2],.J [↑5,↑3]]),(35,.J [.J [↑3,↑3]]),(36,.J [.J [↑2,↑2]])]
def Hz:O:=.id [(3,.J [.J [↑1,↑3]]),(4,.J [.J [↑2,↑1],.J [↑3,↑2]]),(5,.J [.J [↑2,↑1]]),(6,.J [.J [↑1,↑1]]),(7,.J [.J [↑1,↑3],.J [↑4,↑1],.J [↑3,↑3]]),(8,.J [.J [↑3,↑1]]),(15,.J [.J [↑4,↑1]])]
def HA:O:=.id [(20,↑0),(9,↑1),(10,↑2),(11,↑3),(12,↑4),(13,↑5),(14,↑6),(15,↑7),(16,↑8),(17,↑9),(18,↑10),(19,↑11),(1,↑12),(4,↑13)]
def aH(C:List Int):List O:=[Hy,Hz,HA,.list (C.map V.int)]
section
variable{aq:Type}{D:aG}{b:Bool}{vs:List V}{k:Nat}
def db{E:aq}{P:Prop}(Q:au=I E):P:=nomatch Q
def cT{P:Prop}(z:(bA.ab:bA aq)≠.ab):P:=cH j z
def cY{P:Prop}(z:ak=L):P:=cH z kA
section
theorem gc{m:Mine.M aq}(z:(match b with|true=>m|false=>M.ab) D≠.ab):b=L:=by
 cases b
 .cases z j
 .rfl
theorem g1{m:Mine.M aq}(z:b=L):(match(generalizing:=false) b with|true=>m|false=>M.ab)=m:=by cases z;rfl
def Zr{d:V}{t:Nat->Mine.M aq}(z:(match d with| ⇑U=>t U|_=>M.ab) D≠.ab):∃U,d= ⇑U:=by
 cases d
 case ref=>show#[_,j]
 all_goals show cH j z
def Jj{u:Option O}{t:List V->Mine.M aq}(z:(match u with|some (.list vs)=>t vs|_=>M.ab) D≠.ab):∃vs,u=I (.list vs):=by
 obtain _|d:=u
 .cases z j
 cases d
 case list=>show#[_,j]
 all_goals show cH j z
theorem qR{u:Option O}{f:List V->Mine.M aq}(z:u=I (.list vs)):(match(generalizing:=false) u with|some (.list vs)=>f vs|_=>M.ab)=f vs:=by cases z;rfl
end
def iu{x:Mine.M aq}{dc:bA aq}(Q:dc=(match b with|true=>x|false=>M.ab) D)(h:dc≠.ab):b=L/\dc=x D:=by
 obtain _|_:=b
 .cases h Q
 show#[j,Q]
def sb{m:Nat}(z:k<=m):∃Y,m=Y+k:= #[m-k,(ie z).symm]
def Jr{E y g x:Nat}(z:E+k<=g)(s:y+k<=x):max E y+k<=max g x:=(D2 E y).elim (λT=>(afD T).symm▸ao s (f1 ..)) λT=>(Nat.max_eq_left T).symm▸ao z (f7 ..)
def VW{E y x:Nat}(z:E+k<=x)(s:y+k<=x):max E y+k<=x:=ao (Jr z s) (g9.mpr #[bq _,bq _])
def LP{v:Int}(z:1<=v):v=(((v-1).toNat+1:Nat):Int):=(ahj v 1).symm.trans (aN (· +1) (v' (ahk z)).symm)
def cd{E:Bool}(z:(E&&b)=L):E=L/\b=L:=dj.mp z
variable{aI:bj}{o:Obj}{fL:bj}{X a0 o8:List ay}{oh:bj}{v:ar}{Y b2:List ay}{h:bj}{a:ay}{xs:Array ar}{n:Nat}{ai:ay}{w:eO}{base:bj}{iY:O}{l:List aq}
def pE(n:ay):Nat->Option ay
 |0=>I 168
 |1=>I 239
 |2=>I 48
 |3=>I n
 |_=>au
def fx:Nat->ay
 |0=>79
 |_=>334
mutual
noncomputable def aP(ai:ay)(Y:List ay)(h:bj):V->ar->Prop
 |.none,v=>v=.none
 |.bool b,v=>v=.bool b
 | ↑i,v=>∃t,v=.int i t
 |.str s,v=>∃t,v=.str s t
 |.J vs,v=>∃a xs n,v= ⇑a/\IsT h a xs n/\bo ai Y h vs xs.toList
 | ⇑n,v=>∃a,Y[n]?=I a/\v= ⇑a
 |.C k,v=>∃a,pE ai k=I a/\v= ⇑a
noncomputable def bo(ai:ay)(Y:List ay)(h:bj):List V->List ar->Prop
 |[],l=>l=[]
 |x::r,l=>∃v g,l=v::g/\aP ai Y h x v/\bo ai Y h r g
end
def e7{h:Type}(n:ay)(t:List ay)(z:bj):List (h×V)->List (h×ar)->Prop
 |[],l=>l=[]
 |(k,x)::q,l=>∃v g,l=(k,v)::g/\aP n t z x v/\e7 n t z q g
def lr(n:ay)(t:List ay)(z:bj):List (V×V)->List ea->Prop
 |[],l=>l=[]
 |(k,x)::q,l=>∃Q g,l=Q::g/\aP n t z k Q.key/\dw 9 k=I Q.hash/\aP n t z x Q.val/\lr n t z q g
inductive LstAt(h:bj)(R:List ar->Prop)(a:ay):Prop
 |intro(xs:Array ar) (n:Nat) (x:IsL h a xs n) (r:R xs.toList):LstAt h R a
inductive Fp(w:eO)(h:bj)(R:List (Str×ar)->Prop)(e:Prop)(a:ay):Prop
 |intro(kvs:List (Str×ar)) (d:h.DictOf (strKind aZ w) a kvs) (r:R kvs) (x:e->h.DictAt (kC aZ w) a [] 0):Fp w h R e a
inductive E3(w:eO)(h:bj)(R:List (Int×ar)->Prop)(a:ay):Prop
 |intro(kvs:List (Int×ar)) (d:h.DictAt (kC aZ w) a kvs kvs.length) (r:R kvs):E3 w h R a
inductive Fu(h:bj)(R:List ea->Prop)(a:ay):Prop
 |intro(o:Obj) (eD:Array ea) (D:Nat) (g:h.get? a=I o) (x:o.ExactDict) (d:o.data=.dict eD D) (r:R eD.toList):Fu h R a
inductive E4(Y:List ay)(h:bj)(c d:Nat)(a:ay):Prop
 |intro(b:ay) (g:Y[d]?=I b) (x:h.get? a=I (o4 (fx c) b)):E4 Y h c d a
def fW(A:eO)(n:ay)(t:List ay)(z:bj):O->ay->Prop
 |.list vs=>LstAt z (bo n t z vs)
 |.aX es=>Fp A z (e7 n t z es) (es=[])
 |.id es=>E3 A z (e7 n t z es)
 |.ef es=>Fu z (lr n t z es)
 |.inst g x=>E4 t z g x
def nW(N:bj)(b:ay)(o:Obj):Prop:=N.get? b=I o\/(o.cls=.type "frame"/\∃ai,N.get? b=I {o with slots:=ai})
theorem nW.slots{y:ay}(u:nW aI y o):∃n,aI.get? y=I {o with slots:=n}:=u.elim (λQ=> #[o.slots,Q]) (·.2)
theorem nW.trans{y:ay}(u:nW aI y o)(e:∀B,aI.get? y=I B->nW fL y B):nW fL y o:=by
 obtain Q|⟨U,n,Q⟩:=u
 .show e o Q
 .obtain⟨N,d⟩:=(e _ Q).slots;show .inr #[U,N,d]
theorem nW.of{y:ay}(u:nW aI y o)(U:o.cls≠.type "frame"):aI.get? y=I o:=u.elim id λe=>cH e.1 U
def wo(t:List ay)(z N:bj):Prop:=∀b o,z.get? b=I o->b∉t->nW N b o
structure d1(X Y:List ay)(h:bj)(b2:List ay)(aI:bj):Prop where
 pre:∃l,b2=Y++l/\∀a∈l,h.get? a=au
 keep:wo (X++Y) h aI
 qw:∀b o,h.get? b=I o->∃iY,aI.get? b=I iY/\iY.cls=o.cls
def z5(o:Obj):Prop:=o.cls=.type "list"\/o.cls=.type "dict"\/∃g,o.cls= ⇑g
structure gr(w:eO)(ai:ay)(base:bj)(Y:List ay)(D:aG)(h:bj):Prop where
 len:Y.length=D.length
 rep:∀(n:Nat)(o:O),D[n]?=I o->∃a,Y[n]?=I a/\fW w ai Y h o a
 iX:Y.Nodup
 low:∀a∈Y,base.get? a=au
theorem wo.refl(t:List ay)(z:bj):wo t z z:=λy d Q a=>.inl Q
theorem d1.refl(J t:List ay)(z:bj):d1 J t z t z:= #[#[[],(dS _).symm,λa z=>nomatch z],wo.refl _ z,λa d Q=> #[d,Q,j]]
theorem d1.trans{a:List ay}{b r:bj}(u:d1 X a0 oh a b)(e:d1 X a b o8 r):d1 X a0 oh o8 r:=by
 obtain⟨⟨T,rfl,c⟩,p,x⟩:=u;obtain⟨⟨g,rfl,h⟩,k,m⟩:=e;let i:∀y d,oh.get? y=I d->y∉X++a0->y∉X++(a0++T):=λy d Q C l=>by
  obtain l|l:=d9.mp l
  .show C (nB _ l)
  .obtain l|l:=d9.mp l
   .show C (mH _ l)
   .rw[c y l] at Q;cases Q
 show#[#[T++g,ez ..,λE A=>?_],λy d Q C=>?_,λy d Q=>?_]
 .obtain l|l:=d9.mp A
  .show c E l
  .rcases Q:oh.get? E with _|d
   .rfl
   obtain⟨B,J,_⟩:=x E d Q;rw[h E l] at J;cases J
 .show(p y d Q C).trans λB J=>k y B J (i y d Q C)
 .obtain⟨G,f,O⟩:=x y d Q;obtain⟨z,j,n⟩:=m y G f;show#[z,j,n.trans O]
def td{E y:String}(z:E≠y)(Q:v=.type E):v≠.type y:=λl=>z (agp (Q.symm.trans l))
def r_:v=.type "dict"->v≠.type "tuple":=td ()
def AS:v=.type "dict"->v≠.type "frame":=td ()
def I8:v=.type "list"->v≠.type "tuple":=td ()
def Vd:v=.type "list"->v≠.type "frame":=td ()
def acw:v=.type "tuple"->v≠.type "frame":=td ()
def Hp:v=.type "frame"->v≠.type "tuple":=td ()
def rX(t:List ay)(z:bj):Prop:=∀a xs n,IsT z a xs n->a∉t
def b.ext(u:IsT h a xs n)(r:rX (X++Y) h)(Q:d1 X Y h b2 aI):IsT aI a xs n:=(Q.keep a _ u (r a xs n u)).of (acw j)
theorem d1.wide(Q:d1 [] Y h b2 aI):d1 X Y h b2 aI:= #[Q.pre,λy d l C=>Q.keep y d l λp=>C (mH _ p),Q.qw]
theorem d1.narrow(Q:d1 X Y oh b2 aI)(p:∀y d,h.get? y=I d->oh.get? y=I d)(b:∀y∈X,h.get? y=au):d1 [] Y h b2 aI:=by
 obtain⟨⟨T,rfl,c⟩,k,x⟩:=Q;show#[#[T,j,λE A=>?_],λy d Q C=>k y d (p y d Q) λl=>?_,λy d Q=>x y d (p y d Q)]
 .rcases Q:h.get? E with _|d
  .rfl
  have:=p E d Q;rw[c E A] at this;cases this
 .obtain l|l:=d9.mp l
  .rw[b y l] at Q;cases Q
  .show C l
def m6{T:List ay}(z:Y[n]?=I a):(Y++T)[n]?=I a:=by rw[eP (c5.mp z).1];show z
def cF(z N:bj):Prop:=∀a xs n,IsT z a xs n->IsT N a xs n
def cL(t g:List ay):Prop:=∀(n:Nat)(a:ay),t[n]?=I a->g[n]?=I a
theorem cL.refl(t:List ay):cL t t:=λa a z=>z
theorem d1.pr(Q:d1 X Y h b2 aI):cL Y b2:=by obtain⟨⟨T,rfl,_⟩,_,_⟩:=Q;show λU E h=>m6 h
mutual
theorem aP.aD{ai:ay}{Y b2:List ay}{h aI:bj}(t:cF h aI)(e:cL Y b2):∀(x:V)(v:ar),aP ai Y h x v->aP ai b2 aI x v
 |.none,v,r=>r
 |.bool b,v,r=>r
 | ↑i,v,r=>r
 |.str s,v,r=>r
 |.C k,v,r=>r
 | ⇑n,v,r=>by obtain⟨a,f,o⟩:=r;show#[a,e n a f,o]
 |.J vs,v,r=>by obtain⟨a,xs,n,f,o,M⟩:=r;show#[a,xs,n,f,t a xs n o,bo.aD t e vs _ M]
theorem bo.aD{ai:ay}{Y b2:List ay}{h aI:bj}(t:cF h aI)(e:cL Y b2):∀(x:List V)(v:List ar),bo ai Y h x v->bo ai b2 aI x v
 |[],v,r=>r
 |x::xs,v,r=>by obtain⟨E,g,f,o,M⟩:=r;show#[E,g,f,aP.aD t e x E o,bo.aD t e xs g M]
end
theorem e7.aD{a:Type}(r:cF h aI)(Q:cL Y b2)(u:List (a×V))(B:List (a×ar))(q:e7 ai Y h u B):e7 ai b2 aI u B:=by
 induction u generalizing B with
 |nil=>show q
 |cons v e w=>obtain⟨p,u⟩:=v;obtain⟨E,g,f,o,M⟩:=q;show#[E,g,f,aP.aD r Q u E o,w _ M]
theorem lr.aD(r:cF h aI)(Q:cL Y b2)(u:List (V×V))(B:List ea)(q:lr ai Y h u B):lr ai b2 aI u B:=by
 induction u generalizing B with
 |nil=>show q
 |cons v e w=>obtain⟨p,u⟩:=v;obtain⟨E,g,f,o,M,b,O⟩:=q;show#[E,g,f,aP.aD r Q p _ o,M,aP.aD r Q u _ b,w _ O]
theorem fW.aD(r:cF h aI)(Q:cL Y b2)(p:∀d,h.get? a=I d->aI.get? a=I d):∀{d:O},fW w ai Y h d a->fW w ai b2 aI d a
 |.list _,u=>by obtain⟨e,U,N,l⟩:=u;show#[e,U,p _ N,bo.aD r Q _ _ l]
 |.aX _,u=>by obtain⟨e,⟨d,b,D,N,q⟩,l,o⟩:=u;show#[e,#[d,b,D,p d N,q],e7.aD r Q _ _ l,λh=>let#[d,b,N,q]:=o h;#[d,b,p d N,q]]
 |.id _,u=>by obtain⟨e,⟨d,b,N,q⟩,l⟩:=u;show#[e,#[d,b,p d N,q],e7.aD r Q _ _ l]
 |.ef _,u=>by obtain⟨d,i,D,N,q,x,l⟩:=u;show#[d,i,D,p d N,q,x,lr.aD r Q _ _ l]
 |.inst _ _,u=>by obtain⟨y,C,N⟩:=u;show#[y,Q _ _ C,p _ N]
theorem cF.of(p:∀y d,h.get? y=I d->d.cls=.type "tuple"->aI.get? y=I d):cF h aI:=λE e U u=>p E _ u j
theorem cF.keeps(p:∀y d,h.get? y=I d->aI.get? y=I d):cF h aI:=cF.of λy d Q a=>p y d Q
theorem d1.J(r:rX (X++Y) h)(Q:d1 X Y h b2 aI):cF h aI:=λa a a u=>b.ext u r Q
def ip:O->ar
 |.list _=>.type "list"
 |.aX _|.id _|.ef _=>.type "dict"
 |.inst g _=> ⇑(fx g)
theorem fW.ip:∀{d:O}{E:ay},fW w ai Y h d E->∃z,h.get? E=I z/\z.cls=ip d
 |.list _,_,u=>by obtain⟨_,_,N,_⟩:=u;show#[_,N,j]
 |.aX _,_,u=>by obtain⟨_,⟨d,_,_,N,U,_⟩,_,_⟩:=u;show#[d,N,U.1]
 |.id _,_,u=>by obtain⟨_,⟨d,_,N,U,_⟩,_⟩:=u;show#[d,N,U.1]
 |.ef _,_,u=>by obtain⟨d,_,_,N,U,_,_⟩:=u;show#[d,N,U.1]
 |.inst _ _,_,u=>by obtain⟨_,_,N⟩:=u;show#[_,N,j]
theorem fW.cls{d:O}(q:fW w ai Y h d a):∃z,h.get? a=I z/\z5 z:=by obtain⟨z,f,o⟩:=q.ip;show#[z,f,?_];unfold z5;cases d<;>first|show .inl o|show .inr (.inl o)|show .inr (.inr #[_,o])
theorem gr.mut(e:gr w ai base Y D h)(A:a∈Y):∃z,h.get? a=I z/\z5 z:=by
 obtain⟨U,v,rfl⟩:=afi A;let s:U<D.length:=e.len▸v;obtain⟨y,f,o⟩:=e.rep U D[U] (by simp[s]);have:Y[U]=y:=by simpa[v] using f
 show this▸o.cls
theorem gr.rl(e:gr w ai base Y D h):rX Y h:=by rintro E a U N A;obtain⟨z,f,o⟩:=e.mut A;rw[N] at f;obtain rfl:=bR f;obtain l|l|⟨g,l⟩:=o<;>simp at l
theorem aP.ext(e:gr w ai base Y D h)(Q:d1 [] Y h b2 aI){u:V}(q:aP ai Y h u v):aP ai b2 aI u v:=aP.aD (d1.J (X:=[]) e.rl Q) Q.pr u v q
theorem bo.ext(e:gr w ai base Y D h)(Q:d1 [] Y h b2 aI){u:List V}{B:List ar}(q:bo ai Y h u B):bo ai b2 aI u B:=bo.aD (d1.J (X:=[]) e.rl Q) Q.pr u B q
theorem gr.turn(e:gr w ai base Y D h)(r:cF h aI)(p:∀E∈Y,∀d,h.get? E=I d->aI.get? E=I d):gr w ai base Y D aI:= #[e.len,λU d v=>by obtain⟨E,f,o⟩:=e.rep U d v;show#[E,f,o.aD r (cL.refl Y) λd Q=>p E (ry f) d Q],e.iX,e.low]
theorem gr.keeps(e:gr w ai base Y D h)(p:∀y d,h.get? y=I d->aI.get? y=I d):gr w ai base Y D aI:=e.turn (cF.keeps p) λy a d Q=>p y d Q
theorem gr.set(e:gr w ai base Y D h)(v:Y[n]?=I a)(p:∀y d,y≠a->h.get? y=I d->aI.get? y=I d)
  (q:fW w ai Y aI iY a):gr w ai base Y (D.set n iY) aI:=by
 let A:a∈Y:=ry v;let r:n<D.length:=e.len▸(c5.mp v).1;show#[by rw[fV];show e.len,λm d i=>?_,e.iX,e.low];by_cases Q:n=m
 .subst Q;rw[iF r] at i;obtain rfl:=bR i;show#[a,v,q]
 .rw[ru Q] at i;obtain⟨y,f,o⟩:=e.rep m d i;let C:y≠a:=by
   rintro rfl;obtain⟨M,b⟩:=c5.mp f;obtain⟨O,j⟩:=c5.mp v;obtain l|l:=Nat.lt_or_gt_of_ne Q
   .show(afp.mp e.iX) n m O M l (j.trans b.symm)
   .show(afp.mp e.iX) m n M O l (b.trans j.symm)
  show#[y,f,o.aD (cF.of λg z Q U=>p g z (λl=>?_) Q) (cL.refl Y) λz Q=>p y z C Q];obtain⟨c,B,E⟩:=e.mut A;rw[l,B] at Q;obtain rfl:=bR Q;obtain l|l|⟨g,l⟩:=E<;>(rw[U] at l;simp at l)
theorem gr.Rf(e:gr w ai base Y D h){d:O}(v:Y[n]?=I a)(N:D[n]?=I d)(U:ip iY=ip d)(q:fW w ai Y aI iY a)(p:∀y d,y≠a->h.get? y=I d->aI.get? y=I d):d1 [] Y h Y aI:=
 #[#[[],(dS _).symm,λk h=>nomatch h],λy d Q C=>by
  have:aI.get? y=I d:=p y d (λl=>C (l▸ry v)) Q;show .inl this,λy d Q=>by
  by_cases l:y=a
  .subst l;obtain⟨z,f,o⟩:=q.ip;obtain⟨B,M,b⟩:=e.rep n _ N;rw[v] at M;obtain rfl:=bR M;obtain⟨c,i,g⟩:=b.ip;rw[Q] at i;show#[z,f,by rw[o,U,bR i,g]]
  .show#[d,p y d l Q,j]]
def abr{u e:aq}{m:Nat}(z:(l++[u])[m]?=I e):l[m]?=I e\/(m=l.length/\e=u):=by
 by_cases Q:m<l.length
 .show .inl ((eP Q).symm.trans z)
 .let Q:=vT.mp Q;rw[kE Q] at z;rcases a:m-l.length with _|p
  .rw[a] at z;show .inr #[y_ (Nat.le_of_sub_eq_zero a) Q,(bR z).symm]
  rw[a] at z;cases z
theorem gr.add(e:gr w ai base Y D h)(C:base.get? a=au)(i:a∉Y)(r:cF h aI)(b:∀y d,h.get? y=I d->aI.get? y=I d)
  (q:fW w ai (Y++[a]) aI iY a):gr w ai base (Y++[a]) (D++[iY]) aI:=by
 show#[?_,λm d i=>(abr i).elim (λf=>?_) λf=> #[a,?_,f.2▸q],y9.mpr #[e.iX,j0.mpr #[DY,rz],λu T c M l=>i (fC.mp M▸l▸T)],λy p=>(d9.mp p).elim (e.low y) λl=>fC.mp l▸C]
 .rw[cu,cu,e.len];rfl
 .obtain⟨y,f,o⟩:=e.rep m d f;show#[y,m6 f,o.aD r (λg g l=>m6 l) λz Q=>b y z Q]
 .rw[f.1,<-e.len,tx]
theorem gr.new(e:gr w ai base Y D h)(C:base.get? a=au)(A:h.get? a=au)(p:∀y d,h.get? y=I d->aI.get? y=I d)
  (q:fW w ai (Y++[a]) aI iY a):gr w ai base (Y++[a]) (D++[iY]) aI:=by
 show e.add C (λl=>(e.mut l).elim λz h=>nomatch A.symm.trans h.1) (cF.keeps p) p q
theorem d1.new(A:h.get? a=au)(p:∀y d,h.get? y=I d->aI.get? y=I d):d1 [] Y h (Y++[a]) aI:= #[#[[a],j,λy C=>by rw[fC.mp C];show A],λy d Q b=>.inl (p y d Q),λy d Q=> #[d,p y d Q,j]]
theorem d1.keeps(p:∀y d,h.get? y=I d->aI.get? y=I d):d1 [] Y h Y aI:= #[#[[],(dS _).symm,λa h=>nomatch h],λy d Q a=>.inl (p y d Q),λy d Q=> #[d,p y d Q,j]]
variable{ac:List Env}{A:iH}{bf:ar->a3->Prop}{s:a3}{pS:List Env}{ae iW:Env}{b6:ay}{cC:List ay}
abbrev eH(M:List Env):List ay:=M.filterMap (·.frame)
structure Inv(w:eO)(ai:ay)(base:bj)(ac:List Env)(Y:List ay)(D:aG)(h:bj):Prop where
 sim:gr w ai base Y D h
 dy:base.StaysIn h
 fm:h.FunFrames base ac
 apart:∀b∈eH ac,b∉Y
 hY:∀b∈eH ac,∀o,h.get? b=I o->o.cls=.type "frame"
def nR(a ex:List ay)(z N:bj):Prop:=∀b o,z.get? b=I o->b∉ex->(∃ai,N.get? b=I {o with slots:=ai})/\(b∉a->N.get? b=I o)
theorem Inv.near{ex:List ay}(k:Inv w ai base ac Y D h)(U:nR (eH ac) ex h aI)
  (T:∀y∈ex,base.get? y=au/\∀d,h.get? y=I d->∃O,d.data=.fields O):Inv w ai base ac Y D aI:=by
 show#[k.sim.turn (λE e m N=>?_) λE A d Q=>?_,λy d Q=>?_,k.fm.of_keeps λy d Q G=>?_,k.apart,λy C d Q=>?_]
 .let C:E∉ex:=λl=>by
   obtain⟨O,x⟩:=(T E l).2 _ N;cases x
  show(U E _ N C).2 λl=>by have:=k.hY E l _ N;simp at this
 .show(U E d Q λl=>?_).2 λl=>k.apart E l A;obtain⟨O,x⟩:=(T E l).2 d Q;obtain⟨m,i,rfl⟩:=afi A;obtain⟨b,bJ,bZ⟩:=k.sim.rep m (D[m]'(k.sim.len▸i)) (by simp[k.sim.len▸i]);let eT:Y[m]=b:=by simpa[i] using bJ
  rw[<-eT] at bZ;revert bZ;cases D[m]'(k.sim.len▸i) with
  |list O=>rintro⟨e,_,J,_⟩;let a:=bR (Q.symm.trans J);rw[a] at x;cases x
  |aX O=>rintro⟨e,⟨B,_,_,J,_,G,_⟩,_⟩;rw[Q] at J;injections J;rw[G] at x;cases x
  |id O=>rintro⟨e,⟨B,_,J,_,G,_⟩,_⟩;rw[Q] at J;injections J;rw[G] at x;cases x
  |ef O=>rintro⟨B,_,_,J,_,G,_⟩;rw[Q] at J;injections J;rw[G] at x;cases x
  |inst g c=>rintro⟨_,_,J⟩;rw[Q] at J;injections J;cases x
 .let J:=k.dy y d Q;show(U y d J λl=>?_).2 λl=>?_
  .rw[(T y l).1] at Q;cases Q
  .rw[(k.fm.mem l).1] at Q;cases Q
 .let C:y∉ex:=λl=>by
   obtain⟨O,x⟩:=(T y l).2 d Q;show G O x
  obtain⟨⟨z,f⟩,_⟩:=U y d Q C;show#[_,f,j]
 .obtain⟨_,B,J,G⟩:=k.fm.mem C;let p:y∉ex:=λl=>by obtain⟨O,x⟩:=(T y l).2 B J;show G O x
  obtain⟨⟨z,f⟩,_⟩:=U y B J p;rw[f] at Q;rw[<-bR Q];show k.hY y C B J
inductive hM where
 |new
 |at (T:ay) (ac:ar)
inductive ES(base:bj)(e:ay)(T:ay)(ac:ar)(vs:Array ar)(h:bj):Prop
 |mk (u4:vs[1]?=I ⇑T) (dR:base.get? T=au) (o:T≠e) (C:Obj) (q:Array ar) (a:h.get? T=I C) (b:C.data=.fields q) (j:q[3]?=I ac):ES base e T ac vs h
def Nv(base:bj)(Q:ay)(O:Array ar)(z:bj):hM->Prop
 |.new=>O[1]?=I .none
 |.at T ac=>ES base Q T ac O z
inductive ER(base:bj)(e:ay)(m:hM)(h:bj):Prop
 |mk (c:Obj) (vs:Array ar) (n:ar) (V:h.get? e=I c) (U:c.cls=.type "ValueError") (G:c.data=.fields vs) (u:vs[0]?=I n) (i:Nv base e vs h m):ER base e m h
structure pa(base:bj)(e:ay)(m:hM)(h:bj):Prop where
 new:base.get? e=au
 there:ER base e m h
theorem pa.back{f:bj}{Q:ay}{m:hM}(k:pa oh Q m h)(e:d1 X Y f b2 oh):pa f Q m h:=by
 let p:∀y,oh.get? y=au->f.get? y=au:=λy l=>by
  rcases q:f.get? y with _|d
  .rfl
  obtain⟨B,J,_⟩:=e.qw y d q;cases l.symm.trans J
 obtain⟨v,c,O,n,V,U,G,u,i⟩:=k;show#[p Q v,c,O,n,V,U,G,u,?_];cases m with
 |new=>show i
 | «at» T M=>obtain⟨x,w,o,C,g,a,b,j⟩:=i;show#[x,p T w,o,C,g,a,b,j]
def hM.ex(Q:ay):hM->List ay
 |.new=>[Q]
 |.at T _=>[Q,T]
theorem pa.fields{Q:ay}{m:hM}(u:pa base Q m h):∀y∈m.ex Q,base.get? y=au/\∀d,h.get? y=I d->∃O,d.data=.fields O:=by
 obtain⟨v,c,O,n,V,U,G,e,i⟩:=u;let f:base.get? Q=au/\∀d,h.get? Q=I d->∃O,d.data=.fields O:= #[v,λd l=> #[O,bR (V.symm.trans l)▸G]];cases m with
 |new=>show bg.mpr #[f,λg h=>nomatch h]
 | «at» T M=>obtain⟨_,o,_,C,q,b,a,_⟩:=i;show bg.mpr #[f,bg.mpr #[#[o,λd l=> #[q,bR (b.symm.trans l)▸a]],λg h=>nomatch h]]
section
variable{M:oZ}
def Wp{ex:List ay}(M:(tp h (ex++cC)).StaysIn aI)(b:∀y d,h.get? y=I d->(∀O,d.data≠.fields O)->∃n,aI.get? y=I {d with slots:=n})
  (G:∀y∈cC,∀d,h.get? y=I d->∀O,d.data≠.fields O):nR cC ex h aI:=λy d Q C=>by
 by_cases l:y∈cC
 .show#[b y d Q (G y l d Q),λp=>cH l p]
 .have:aI.get? y=I d:=M y d (hideAll_get _ Q λp=>(d9.mp p).elim C l);show#[#[d.slots,this],λa=>this]
def RY{ex:List ay}(c:h.FunFrames base ac):h.FunFrames (tp h (ex++eH ac)) ac:=funFrames_hide c λi V E A=>mH _ (rv.mpr #[i,V,A])
theorem Hw(c:h.FunFrames base ac):∀y∈eH ac,∀d,h.get? y=I d->∀O,d.data≠.fields O:=λy C d Q=>by obtain⟨_,B,J,G⟩:=c.mem C;rw[Q] at J;injections J;show G
end
variable{x:Str}{aj:ap}{ba eK:a3}{bM:aG}{t:Nat}{aC bb:Type}{R:List ay->bj->aq->aC->Prop}{f:aq->Mine.M bb}{r:bA aq}{dc:bA bb}
section
theorem gx{E y:Str}:b_ E y=L↔E=y:=by
 unfold b_;rw[Fast.lEq_iff];constructor
 .intro z;show aN (λT=>(#[#[T]]:Str)) z
 .rintro rfl;rfl
def K'(E:Str):b_ E E=L:=gx.mpr j
theorem oE{E y:Str}:b_ E y=ak↔E≠y:=by
 constructor
 .rintro z rfl;rw[K'] at z;cases z
 .intro z;rcases l:b_ E y with _|_
  .rfl
  cases z (gx.mp l)
def B5(u e:Str)(B:aq)(q:List (Str×aq)):aT u ((e,B)::q)=(match b_ u e with|true=>I B|false=>aT u q):=j
def CR(u e:Str)(B a:aq)(q:List (Str×aq)):put u B ((e,a)::q)=(match b_ u e with|true=>(e,B)::q|false=>(e,a)::put u B q):=j
def mn(u e:Str)(B:aq)(q:List (Str×aq)):aT u ((e,B)::q)=if u=e then I B else aT u q:=by
 rw[B5];rcases l:b_ u e with _|_
 .rw[aS (oE.mp l)]
 rw[aL (gx.mp l)]
set_option tactic.hygienic true in
theorem Vx(u e:Str)(B:aq):∀(q:List (Str×aq)),aT u (put e B q)=if u=e then I B else aT u q:=by
 intro q
 induction q with
 |nil=>show mn u e B []
 |cons r q w=>
  obtain⟨o,a⟩:=r;rw[CR];rcases l:b_ e o with _|_
  .let T:=oE.mp l;simp only[mn,w];split
   .rename_i z;subst z;rw[aS (i8 T)]
   .rfl
  obtain rfl:=gx.mp l;simp only[mn];split<;>rfl
theorem mo(u:Str):∀(q:List (Str×aq)),aT u q=q.lookup u:=by
 intro q
 induction q with
 |nil=>show j
 |cons r q w=>
  obtain⟨e,B⟩:=r;rw[B5,nA];rcases l:b_ u e with _|_
  .have:(u==e)=ak:=beq_eq_false_iff_ne.mpr (oE.mp l);rw[this,w]
  obtain rfl:=gx.mp l;simp
def x1(z:jk x=L):(x==("__debug__":Str))=ak/\(x==("__classdict__":Str))=ak:=by
 unfold jk at z;rcases l:b_ x "__debug__" with _|_
 .rw[l] at z;rcases T:b_ x "__classdict__" with _|_
  .show#[beq_eq_false_iff_ne.mpr (oE.mp l),beq_eq_false_iff_ne.mpr (oE.mp T)]
  rw[T] at z;cases z
 rw[l] at z;cases z
structure bk where
 w:eO
 ai:ay
 base:bj
 qW:Str->Option ar
 or:Str->Option ar
def tL(n:ay)(i:Env)(m:Str->Option ar)(t:List ay)(z:bj)(x:Str)(B:V):Prop:=
 (i.kindOf x=I .local/\∃a,m x=I a/\aP n t z B a)\/
 ((i.kindOf x=I .cell\/i.kindOf x=I .free)/\∃g a,i.cells.lookup x=I g/\g∉t/\z.IsCell g (I a)/\aP n t z B a)
structure br(ai:ay)(ae:Env)(aj:ap)(Y:List ay)(h:bj):Prop where
 off:ae.locals∉Y
 names:∃m,h.Ns ae.locals m/\∀x v,aT x aj=I v->tL ai ae m Y h x v
def JV{m:Str->Option ar}(v:h.Ns a m)(p:∀d,h.get? a=I d->∃n,aI.get? a=I {d with slots:=n}):aI.Ns a m:=by obtain⟨d,b,D,N,G,q⟩:=v;obtain⟨n,c⟩:=p d N;show#[_,b,D,c,G,q]
structure zJ(cC ex:List ay)(h:bj):Prop where
 ex:∀b∈ex,∀o,h.get? b=I o->∃vs,o.data=.fields vs
 cC:∀b∈cC,∀o,h.get? b=I o->o.cls=.type "frame"
theorem nR.J{ex:List ay}(U:nR cC ex h aI)(u:zJ cC ex h):cF h aI:=λE e m N=>by
 let C:E∉ex:=λl=>by obtain⟨O,x⟩:=u.ex E l _ N;cases x
 show(U E _ N C).2 λl=>by have:=u.cC E l _ N;simp at this
theorem br.near{ex:List ay}(c:br ai ae aj Y h)(U:nR cC ex h aI)(u:zJ cC ex h):br ai ae aj Y aI:=by
 obtain⟨j,m,v,i⟩:=c;let bn:=U.J u;show#[j,m,JV v λd N=>(U _ d N λl=>?_).1,λe B M=>?_]
 .obtain⟨s,b,D,V,G,_⟩:=v;rw[N] at V;obtain rfl:=bR V;obtain⟨O,x⟩:=u.ex _ l _ N;rw[G] at x;cases x
 .obtain⟨p,a,r,q⟩|⟨p,g,a,o,i,⟨n,k,w⟩,q⟩:=i e B M
  .show .inl #[p,a,r,aP.aD bn (cL.refl _) _ _ q]
  .show .inr #[p,g,a,o,i,?_,aP.aD bn (cL.refl _) _ _ q];obtain⟨z,f⟩:=(U g n k λl=>by obtain⟨O,x⟩:=u.ex _ l _ k;rw[w] at x;cases x).1;show#[_,f,w]
structure ii(ai:ay) where
 X:List ay
 P:List ay->bj->List ay->bj->Prop
 ack:∀{a b c d e f},P a b c d->P c d e f->P a b e f
 of:∀{Y h b2 aI},rX Y h->d1 [] Y h b2 aI->P Y h b2 aI
 x8:∀{Y h b2 aI fL cC ex},P Y h b2 aI->nR cC ex aI fL->zJ cC ex aI->P Y h b2 fL
def k3(n:ay):ii n:= #[[],λa a a a=>True,λa a=>trivial,λa a=>trivial,λa a a=>trivial]
theorem tL.ext{m:Str->Option ar}{B:V}(r:rX Y h)(Q:d1 [] Y h b2 aI)(y:tL ai ae m Y h x B):tL ai ae m b2 aI x B:=by
 obtain⟨p,a,b,q⟩|⟨p,g,a,U,i,E,q⟩:=y
 .show .inl #[p,a,b,aP.aD (d1.J (X:=[]) r Q) Q.pr B a q]
 .obtain⟨n,k,G⟩:=E;show .inr #[p,g,a,U,λl=>?_,?_,aP.aD (d1.J (X:=[]) r Q) Q.pr B a q]
  .obtain⟨⟨T,rfl,c⟩,_,_⟩:=Q;obtain l|l:=d9.mp l
   .show i l
   .rw[c g l] at k;cases k
  .obtain⟨z,f⟩:=(Q.keep g n k i).slots;show#[_,f,G]
theorem br.ext(r:rX Y h)(Q:d1 [] Y h b2 aI)(y:br ai ae aj Y h):br ai ae aj b2 aI:=by
 obtain⟨j,m,v,q⟩:=y;show#[λl=>?_,m,JV v λd N=>(Q.keep _ d N j).slots,λu B T=>(q u B T).ext r Q];obtain⟨⟨a,rfl,c⟩,_,_⟩:=Q;obtain⟨d,_,_,N,_⟩:=v;obtain l|l:=d9.mp l
 .show j l
 .rw[c _ l] at N;cases N
def NE(n:ay)(i:Env)(pr:List Str)(t:List ay)(z:bj)(g:List ay)(N:bj):Prop:=∀aj,(∀x v,aT x aj=I v->x∈pr)->br n i aj t z->br n i aj g N
def kp(a:ay)(i:Env)(pr:List Str):ii a:= #[[i.locals],NE a i pr,λx e aj c r=>e aj c (x aj c r),λt Q aj b r=>r.ext t Q,λP n x aj c r=>(P aj c r).near n x]
structure bB(H:bk)(ac:List Env)(Z:ii H.ai)(Y:List ay)(s:a3)(b2:List ay)(y:aG)(aR:a3):Prop where
 aK:Inv H.w H.ai H.base ac b2 y aR.heap
 ext:d1 Z.X Y s.heap b2 aR.heap
 pr:Z.P Y s.heap b2 aR.heap
 os:aR.os=s.os
 gens:aR.gens=s.gens
variable{H:bk}{Z:ii H.ai}{No:List ay}{yU:aG}
theorem bB.refl(k:Inv H.w H.ai H.base ac Y D s.heap):bB H ac Z Y s Y D s:= #[k,.refl ..,Z.of k.sim.rl (.refl ..),j,j]
theorem bB.trans(u:bB H ac Z Y s a0 bM ba)(e:bB H ac Z a0 ba No yU eK):bB H ac Z Y s No yU eK:= #[e.aK,u.ext.trans e.ext,Z.ack u.pr e.pr,e.os.trans u.os,e.gens.trans u.gens]
theorem bB.wide(k:Inv H.w H.ai H.base ac Y D s.heap)(u:bB H ac (k3 H.ai) Y s a0 bM ba):bB H ac Z Y s a0 bM ba:= #[u.aK,u.ext.wide,Z.of k.sim.rl u.ext,u.os,u.gens]
theorem bB.tok(u:bB H ac Z Y s a0 bM ba):bB H ac Z Y s a0 bM {ba with toks:=t}:= #[u.aK,u.ext,u.pr,u.os,u.gens]
def hM.Hi(M:List Env):hM->Prop
 |.new=>True
 |.at _ f=>f=.none\/∃ae b6,M.head?=I ae/\ae.frame=I b6/\f=o6 b6
inductive jw{aq aC:Type}(H:bk)(ac:List Env)(Z:ii H.ai)(Y:List ay)(s:a3)(R:List ay->bj->aq->aC->Prop)(r:bA aq)(v:aC)(aR:a3):Prop
 |intro(a:aq) (y:aG) (b2:List ay) (e:r=.ok a y) (P:bB H ac Z Y s b2 y aR) (x:R b2 aR.heap a v):jw H ac Z Y s R r v aR
inductive dN{aq:Type}(H:bk)(ac:List Env)(Z:ii H.ai)(Y:List ay)(s:a3)(r:bA aq)(e:ar)(aR:a3):Prop
 |intro(y:aG) (b2:List ay) (a:ay) (m:hM) (h:r=.exc y) (q:e= ⇑a) (P:bB H ac Z Y s b2 y aR) (x:pa s.heap a m aR.heap) (f:m.Hi ac):dN H ac Z Y s r e aR
abbrev aO(T:bk)(M:List Env)(t:List ay)(p:aG)(s:a3):Prop:=Inv T.w T.ai T.base M t p s.heap
abbrev d2{c h:Type}(T:bk)(M:List Env)(t:List ay)(s:a3)(H:List ay->bj->c->h->Prop)(q:bA c):h->a3->Prop:=jw T M (k3 T.ai) t s H q
abbrev fX{c:Type}(T:bk)(M:List Env)(t:List ay)(s:a3)(q:bA c):ar->a3->Prop:=dN T M (k3 T.ai) t s q
abbrev df(T:bk)(M:List Env)(t:List ay)(s:a3)(g:List ay)(y:aG)(E:a3):Prop:=bB T M (k3 T.ai) t s g y E
abbrev Ab{c h:Type}(T:bk)(M:List Env)(i:Env)(pr:List Str)(t:List ay)(s:a3)(H:List ay->bj->c->h->Prop)(q:bA c):h->a3->Prop:=jw T M (kp T.ai i pr) t s H q
abbrev wy{c:Type}(T:bk)(M:List Env)(i:Env)(pr:List Str)(t:List ay)(s:a3)(q:bA c):ar->a3->Prop:=dN T M (kp T.ai i pr) t s q
abbrev lp(T:bk)(M:List Env)(i:Env)(pr:List Str)(t:List ay)(s:a3)(g:List ay)(y:aG)(E:a3):Prop:=bB T M (kp T.ai i pr) t s g y E
abbrev bu{c:Type}(T:bk)(r:iH)(v:Sem c)(d:c->a3->Prop)(U:ar->a3->Prop)(s:a3):Prop:=cE (gC aZ T.w) r v d U s
section
variable{dk:Type}{M:oZ}{ahu:List ay->bj->bb->dk->Prop}{m:Mine.M aq}
theorem jw.trans{B:aC}(u:bB H ac Z Y s a0 bM ba)(e:jw H ac Z a0 ba R r B eK):jw H ac Z Y s R r B eK:=by obtain⟨E,y,g,f,o,M⟩:=e;show#[E,y,g,f,u.trans o,M]
theorem dN.trans(u:bB H ac Z Y s a0 bM ba)(e:dN H ac Z a0 ba r v eK):dN H ac Z Y s r v eK:=by obtain⟨y,g,E,m,f,o,M,b,O⟩:=e;show#[y,g,E,m,f,o,u.trans M,b.back u.ext,O]
theorem dN.wide(k:aO H ac Y D s)(e:fX H ac Y s r v eK):dN H ac Z Y s r v eK:=by obtain⟨y,g,E,m,f,o,M,b,O⟩:=e;show#[y,g,E,m,f,o,M.wide k,b,O]
theorem dN.G(e:dN H ac Z Y s (m D) v eK):dN H ac Z Y s ((m.G f) D) v eK:=by obtain⟨y,g,E,k0,a,o,c,b,O⟩:=e;show#[y,g,E,k0,by unfold Mine.M.G;rw[a],o,c,b,O]
def he{E:aq}(z:m D=.ok E bM):(m.G f) D=f E bM:=by unfold Mine.M.G;rw[z]
def jA(z:(m.G f) D≠.ab):m D≠.ab:=λl=>z (by unfold Mine.M.G;rw[l])
def aaF{r:Sem aC}{d:aC->a3->Prop}(h:(m.G f) D≠.ab)(i:m D≠.ab->cE M A r (jw H ac Z Y s R (m D)) (dN H ac Z Y s (m D)) s)
  (O:∀E q x B V,m D=.ok E q->f E q≠.ab->bB H ac Z Y s x q V->R x V.heap E B->(m.G f) D=f E q->d B V):
  cE M A r d (dN H ac Z Y s ((m.G f) D)) s:=by
 show eb (i (jA h)) (λB V z=>?_) λQ c z=>z.G;obtain⟨E,q,x,a,o,b⟩:=z;let Q:=he (f:=f) a;rw[Q] at h;show O E q x B V a h o b Q
def wI(z:m D=.exc bM):(m.G f) D=.exc bM:=by unfold Mine.M.G;rw[z]
def n3(z:m D=.ab):(m.G f) D=.ab:=by unfold Mine.M.G;rw[z]
theorem Au{y:bb}(z:(m.G f) D=.ok y yU):∃E q,f E q=.ok y yU:=by
 cases l:m D with
 |ok E q=>show#[E,q,(he l).symm.trans z]
 |exc q=>show nomatch (wI l).symm.trans z
 |ab=>show nomatch (n3 l).symm.trans z
theorem fs{r:Sem aC}{d:aC->a3->Prop}(u:dc=(m.G f) D)(h:dc≠.ab)(i:m D≠.ab->cE M A r (jw H ac Z Y s R (m D)) (dN H ac Z Y s (m D)) s)
  (O:∀E q x B V,bB H ac Z Y s x q V->R x V.heap E B->dc=f E q->d B V):cE M A r d (dN H ac Z Y s dc) s:=by
 subst u;show eb (i (jA h)) (λB V z=>?_) λQ c z=>z.G;obtain⟨E,q,x,a,o,b⟩:=z;show O E q x B V o b (he a)
def k6{r:Sem aC}{d:aC->a3->Prop}(P:bB H ac Z Y s a0 bM ba)(u:dc=(m.G f) bM)(h:dc≠.ab)(i:m bM≠.ab->cE M A r (jw H ac Z a0 ba R (m bM)) (dN H ac Z a0 ba (m bM)) ba)
  (O:∀E v a B e,bB H ac Z Y s a v e->bB H ac Z a0 ba a v e->R a e.heap E B->dc=f E v->d B e):cE M A r d (dN H ac Z Y s dc) ba:=
 eb (fs u h i λE v a B e t=>O E v a B e (P.trans t) t) (λb b z=>z) λb b z=>z.trans P
def d5{q C:bA bb}(u:q=C)(h:q≠.ab):C≠.ab:=u▸h
end
structure mS(sc:gS)(ae:Env)(ac:List Env):Prop where
 kind:ae.scope.kind=.function
 aj:∀x,f6 sc x=L->ae.kindOf x=I .local
 cell:∀x,uE sc x=L->ae.kindOf x=I .cell
 top:∀x,m_ sc x=L->ae.kindOf x=I .globalImplicit
 glob:ae.globals=nK
 blt:ae.builtins=tq
 frame:∃iW pS b6,ac=iW::pS/\iW.frame=I b6/\ae.frame=I b6
abbrev Ac(T:bk)(t:List ay)(z:bj):V->ar->Prop:=aP T.ai t z
abbrev fk(T:bk)(M:List Env)(t:List ay)(s:a3)(q:bA V):ar->a3->Prop:=jw T M (k3 T.ai) t s (Ac T) q
abbrev ht(T:bk)(r:iH)(M:List Env)(t:List ay)(s:a3)(v:Sem ar)(q:bA V):Prop:=cE (gC aZ T.w) r v (jw T M (k3 T.ai) t s (Ac T) q) (dN T M (k3 T.ai) t s q) s
end
variable{i av:Int}{y:Str}
section
variable{H:bk}
theorem Inv.keeps(k:Inv w ai base ac Y D h)(p:∀y d,h.get? y=I d->aI.get? y=I d):Inv w ai base ac Y D aI:= #[k.sim.keeps p,λy d Q=>p y d (k.dy y d Q),k.fm.of_keeps λy d Q a=> #[d,p y d Q,j],k.apart,λy C d Q=>by obtain⟨_,B,J,_⟩:=k.fm.mem C;have:=p y B J;rw[Q] at this;rw[bR this];show k.hY y C B J]
def bB.keeps(k:aO H ac Y D s)(p:∀y d,s.heap.get? y=I d->aI.get? y=I d):df H ac Y s Y D {s with heap:=aI,toks:=t}:= #[k.keeps p,d1.keeps p,trivial,j,j]
theorem bB.push{b0:Obj}{o:O}(a:aO H ac Y D s)(q:fW H.w H.ai (Y++[s.heap.objs.size]) (s.heap.push b0) o s.heap.objs.size):
  df H ac Y s (Y++[s.heap.objs.size]) (D++[o]) {s with heap:=s.heap.push b0,toks:=t}:=by
 let k:∀y o,s.heap.get? y=I o->(s.heap.push b0).get? y=I o:=λy o Q=>i9 _ Q;let v:s.heap.get? s.heap.objs.size=au:=by
  rcases l:s.heap.get? s.heap.objs.size with _|o
  .rfl
  cases(hp _) (vW l)
 let E:=a.keeps k;show#[#[a.sim.new a.dy.fresh v k q,E.dy,E.fm,λy C l=>?_,E.hY],d1.new v k,trivial,j,j];obtain l|l:=d9.mp l
 .show a.apart y C l
 .rw[fC.mp l] at C;obtain⟨_,o,Q,_⟩:=a.fm.mem C;rw[v] at Q;cases Q
def X_(k:aO H ac Y D s)(q:bo H.ai Y s.heap vs xs.toList):
  df H ac Y s (Y++[s.heap.objs.size]) (D++[.list vs]) {s with heap:=s.heap.push {cls:=.type "list",data:=.seq xs},toks:=t}:=
 bB.push k #[xs,0,IsL.new _ _,bo.aD (cF.keeps λy d Q=>i9 _ Q) (λU E z=>m6 z) _ _ q]
def ZC(k:aO H ac Y D s):aP H.ai (Y++[s.heap.objs.size]) h ⇑D.length ⇑s.heap.objs.size:=by show#[_,k.sim.len▸tx,j]
def ZD(q:bo H.ai Y s.heap vs xs.toList):aP H.ai Y (s.heap.push {cls:=.type "tuple",data:=.seq xs}) (.J vs) ⇑s.heap.objs.size:=by show#[_,xs,0,j,IsT.new _ _,bo.aD (cF.keeps λy d Q=>i9 _ Q) (cL.refl _) _ _ q]
theorem bo.append:∀{E b:List V}{u y:List ar},bo ai Y h E u->bo ai Y h b y->bo ai Y h (E++b) (u++y)
 |[],b,u,y,f,o=>by obtain rfl:u=[]:=f;show o
 |B::E,b,u,y,f,o=>by obtain⟨a,g,rfl,M,c⟩:=f;show#[a,_,j,M,c.append o]
theorem bo.length:∀{E:List V}{u:List ar},bo ai Y h E u->u.length=E.length
 |[],u,f=>by obtain rfl:u=[]:=f;rfl
 |B::E,u,f=>by obtain⟨a,g,rfl,M,b⟩:=f;rw[oW,oW,b.length]
theorem bo.get:∀{E:List V}{u:List ar},bo ai Y h E u->∀{U:Nat}{B:V},E[U]?=I B->∃a,u[U]?=I a/\aP ai Y h B a
 |B::E,u,f,U,A,Q=>by
  obtain⟨a,g,rfl,M,b⟩:=f;obtain _|U:=U
  .simp at Q;subst Q;show#[a,j,M]
  show b.get (by simpa using Q)
theorem bo.drop:∀{E:List V}{u:List ar}(U:Nat),bo ai Y h E u->bo ai Y h (E.drop U) (u.drop U)
 |E,u,0,f=>f
 |[],u,U+1,f=>by obtain rfl:u=[]:=f;rfl
 |B::E,u,U+1,f=>by obtain⟨a,g,rfl,M,b⟩:=f;show b.drop U
theorem bo.take:∀{E:List V}{u:List ar}(U:Nat),bo ai Y h E u->bo ai Y h (E.take U) (u.take U)
 |E,u,0,f=>rfl
 |[],u,U+1,f=>by obtain rfl:u=[]:=f;rfl
 |B::E,u,U+1,f=>by obtain⟨a,g,rfl,M,b⟩:=f;show#[a,_,j,M,b.take U]
section
variable{rN:List ay}{g:bj}{u:ar}
@[elab_as_elim] theorem uC{P:ar->Prop}(q:aP ai rN g ↑i v)(y:∀r,P (.int i r)):P v:=rC q λr Q=>Q▸y r
@[elab_as_elim] theorem Do{P:ar->Prop}(q:aP ai rN g (.str x) v)(y:∀r,P (.str x r)):P v:=rC q λr Q=>Q▸y r
@[elab_as_elim] theorem Cm{P:ar->Prop}(q:aP ai rN g .none v)(y:P .none):P v:=ME (show v=.none from q)▸y
@[elab_as_elim] theorem uB{P:ar->ar->Prop}(q:aP ai rN g ↑i v)(l:aP ai rN g ↑av u)(y:∀r V,P (.int i r) (.int av V)):P v u:=uC q λr=>uC l λV=>y r V
@[elab_as_elim] theorem abK{P:ar->ar->Prop}(q:aP ai rN g (.str x) v)(l:aP ai rN g (.str y) u)(a:∀r V,P (.str x r) (.str y V)):P v u:=Do q λr=>Do l λV=>a r V
end
def hy(z:aU n=L):n<=4000000:=cc z
def vE(z:n<=4000000):n<=j9:=ao z ()
def yM(z:c7 i=L):i.natAbs<2^100:=by let C:((i.natAbs:Nat):Int)<((1000000000000000000000000000000:Nat):Int):=(ahc i).elim (λQ=>nM (agJ Q.symm) (bS (cd z).2)) λQ=>Int.lt_of_neg_lt_neg (v9 (bS (cd z).1) (agJ Q));show oX (tv.mp C) ()
theorem fR{d:O}(k:aO H ac Y D s)(q:aP H.ai Y s.heap ⇑n v)(z:D[n]?=I d):∃E,v= ⇑E/\Y[n]?=I E/\fW H.w H.ai Y s.heap d E:=by obtain⟨E,f,rfl⟩:=q;obtain⟨l,o,M⟩:=k.sim.rep n d z;rw[f] at o;show#[E,j,f,bR o▸M]
def fq{v:V}{a:ar}{q:bA V}(Q:q=.ok v D)(k:aO H ac Y D s)(z:aP H.ai Y s.heap v a):fk H ac Y s q a {s with toks:=t}:= #[v,D,Y,Q,(bB.refl k).tok,z]
end
variable{C:List O}{op:qb}
structure gT(H:bk):Prop where
 WE:H.base.NoLimit
 yb:H.base.Ns nK H.qW
 WK:H.base.Ns tq H.or
 abU:∃o,H.base.get? rH=I o
section
variable{H:bk}
theorem foldl_rep(B:ar):∀(p:Nat)(g:Array ar),(List.foldl (λa1 b=>a1++b) g (lV p (gn [B]))).toList=g.toList++lV p B:=by
 intro p
 induction p with
 |zero=>intro g;simp
 |succ p w=>intro g;rw[afq,ahr,w];simp[afq]
theorem Zz{B:V}{a:ar}(q:aP ai Y h B a):∀p,bo ai Y h (lV p B) (lV p a):=by
 intro p
 induction p with
 |zero=>show j
 |succ p w=>show#[a,_,j,q,w]
def We{E y:Int}(A:c7 E=L)(C:c7 y=L):IntMulOk E y:=IntMulOk.of_le (m:=100) (n:=100) (agK.mpr (yM A)) (agK.mpr (yM C)) ()
def WB{E y:Int}(C:c7 y=L):Builtin.divisionGoesByPylong E y=ak:=PyProof.noPylong_of_log2 (by
 let z:=yM C;by_cases u:y.natAbs=0
 .rw[u];decide+kernel
 .have:y.natAbs.log2<100:=(afz u).mpr z;omega)
inductive o9(i av:Int):qb->Int->Prop
 |add:o9 i av .Add (i+av)
 |sub:o9 i av .Sub (i-av)
 |mul (h:(c7 i&&c7 av)=L):o9 i av .Mult (i*av)
 |div (h:(c7 i&&c7 av&& !↥(av=0))=L):o9 i av .FloorDiv (i.fdiv av)
 |mod (h: ↥(av=0)=ak):o9 i av .Mod (i.fmod av)
def od{a q:aq}(z:(match b with|true=>I a|false=>au)=I q):b=L/\a=q:=by
 obtain _|_:=b
 .show db z
 show#[j,bR z]
def HR{E q:aq}(z:(match b with|true=>au|false=>I E)=I q):b=ak/\E=q:=by
 obtain _|_:=b
 .show#[j,bR z]
 show db z
theorem Oa{q:Int}(z:pk op i av=I q):o9 i av op q:=by
 cases op with
 |Add=>show bR z▸.add
 |Sub=>show bR z▸.sub
 |Mult=>show(od z).2▸.mul (od z).1
 |FloorDiv=>show(od z).2▸.div (od z).1
 |Mod=>show(HR z).2▸.mod (HR z).1
 |_=>show db z
theorem OG{q:Int}{a:Nat}(k:aO H ac Y D s)(z:o9 i av op q):bu H A (zu op (.int i t) (.int av a)) (fk H ac Y s (.ok ↑q D)) bf s:=by
 let du:fk H ac Y s (.ok ↑q D) (.int q s.toks) {s with toks:=s.toks+1}:=fq (v:= ↑q) j k #[_,j]
 induction z with
 |add=>show add_int du
 |sub=>show sub_int du
 |mul z=>have l:=dj.mp z;show mul_int du (We l.1 l.2)
 |div z=>have l:=dj.mp z;show floordiv_int (rM (p8 _▸l.2)) du (.inl (WB (dj.mp l.1).2))
 |mod z=>show mod_int (rM z) du
end
variable{gj hG:ar}{q:Bool}{m:Mine.M V}
section
variable{H:bk}
def CZ{q:bA V}(Q:q=.ok (.J vs) D)(k:aO H ac Y D s)(z:bo H.ai Y s.heap vs xs.toList):
  fk H ac Y s q ⇑s.heap.objs.size {s with heap:=s.heap.push {cls:=.type "tuple",data:=.seq xs},toks:=t}:=
 #[_,D,Y,Q,.keeps k λy d Q=>i9 _ Q,ZD z]
def yC{q:bA V}(Q:q=.ok ⇑D.length (D++[.list vs]))(k:aO H ac Y D s)(z:bo H.ai Y s.heap vs xs.toList):
  fk H ac Y s q ⇑s.heap.objs.size {s with heap:=s.heap.push {cls:=.type "list",data:=.seq xs},toks:=t}:=
 #[_,_,_,Q,X_ k z,ZC k]
theorem OJ{E y:List V}(k:aO H ac Y D s)(O:aP H.ai Y s.heap (.J E) gj)(h:aP H.ai Y s.heap (.J y) hG)(b:aU (E.length+y.length)=L):
  bu H A (zu .Add gj hG) (fk H ac Y s (.ok (.J (E++y)) D)) bf s:=by
 let a:=O;let c:=h;obtain⟨u,e,U,rfl,T,g⟩:=O;obtain⟨i,G,m,rfl,M,p⟩:=h;let b4:=g.length;let cp:=p.length;let n:=hy b;simp only[af'] at b4 cp;by_cases f:e.isEmpty=L
 .have:E=[]:=vO.mp (by rw[<-b4];simpa[afE] using f);subst this;show agF #[_,T,j] #[_,M,j] agP agS af_ af7 (af5 _ _) (AutoSeq1.tuple___add___tuple_tuple_0 u e U i G m f)
   #[T,M,fq (t:=s.toks) j k (by simpa using c)]
 .by_cases d:G.isEmpty=L
  .have:y=[]:=vO.mp (by rw[<-cp];simpa[afE] using d);subst this;show agF #[_,T,j] #[_,M,j] agP agS af_ af7 (af5 _ _) (AutoSeq1.tuple___add___tuple_tuple_1 u e U i G m f d)
    #[T,M,fq (t:=s.toks) j k (by simpa using a)]
  .show P.add_tuple T M f d (CZ (t:=s.toks) j k (by rw[Nh];show g.append p)) (by rw[b4,cp];unfold j9;omega)
theorem OH{u e:Nat}{E y:List V}(k:aO H ac Y D s)(O:aP H.ai Y s.heap ⇑u gj)(m:aP H.ai Y s.heap ⇑e hG)(a:D[u]?=I (.list E))(C:D[e]?=I (.list y))
  (b:aU (E.length+y.length)=L):bu H A (zu .Add gj hG) (fk H ac Y s (.ok ⇑D.length (D++[.list (E++y)]))) bf s:=by
 obtain⟨v,rfl,_,d,U,T,g⟩:=fR k O a;obtain⟨l,rfl,_,G,c,M,p⟩:=fR k m C;let b4:=g.length;let cp:=p.length;let n:=hy b;simp only[af'] at b4 cp;show P.add_list T M (yC (t:=s.toks) j k (by rw[Nh];show g.append p)) (by rw[b4,cp];unfold j9;omega)
theorem OI{u:Nat}{p:Int}{B:V}(w:gT H)(k:aO H ac Y D s)(O:aP H.ai Y s.heap ⇑u gj)(f:D[u]?=I (.list [B]))
  (b:(↥(0<=p)&&aU p.toNat)=L):bu H A (zu .Mult gj (.int p t)) (fk H ac Y s (.ok ⇑D.length (D++[.list (lV p.toNat B)]))) bf s:=by
 obtain⟨v,rfl,_,e,d,c,g⟩:=fR k O f;obtain⟨a,_,g,y,rfl⟩:=g;obtain⟨e⟩:=e;obtain rfl:e=[a]:=g;simp only[Nm,Nn] at b;let n:=hy b.2;show wpAny_binaryOp_repeat_ref (T:="list") (U:="int") () #[_,c,j] (λE=>typeIs_int E p t) noFill_list_mul F.fills_int_mul af8 repeat_list F.slot_int_index.lookup
  (zv af8 (typeIs_int s p t) F.entry_int_rmul (F.args_int_rmul_2 _ _) (int___rmul___int_list p t v (gn [a]) d) #[c,j,#[_,c,j],?_])
 show zv F.slot_list_mul #[_,c,j] F.entry_list_mul (F.args_list_mul_2 _ _) (ahI v (gn [a]) d p t (by simp[ahL];omega) (by simp;omega) (by simp[afW,j9];omega)) #[c,?_]
 show yC (t:=s.toks) j k (by
  rw[foldl_rep];simpa using Zz y p.toNat)
def Ft(u:Str):u.length=u.cps.size:=j
inductive qe(D:aG):qb->V->V->bA V->Prop
 |int (op:qb) (i av r:Int) (h:o9 i av op r):qe D op ↑i ↑av (.ok ↑r D)
 |str (x y:Str) (h:aU (x.cps.size+y.cps.size)=L):qe D .Add (.str x) (.str y) (.ok (.str (x++y)) D)
 |J (x y:List V) (h:aU (x.length+y.length)=L):qe D .Add (.J x) (.J y) (.ok (.J (x++y)) D)
 |list (x y:Nat) (a b:List V) (A:D[x]?=I (.list a)) (C:D[y]?=I (.list b)) (h:aU (a.length+b.length)=L):qe D .Add ⇑x ⇑y (.ok ⇑D.length (D++[.list (a++b)]))
 |mul (x:Nat) (k:Int) (v:V) (A:D[x]?=I (.list [v])) (h:(↥(0<=k)&&aU k.toNat)=L):qe D .Mult ⇑x ↑k (.ok ⇑D.length (D++[.list (lV k.toNat v)]))
def tO(A:qb)(a b:V)(p:aG)(q:bA V):Prop:=q≠.ab->qe p A a b q
def x'{E y:V}(z:q=L->qe D op E y (m D)):tO op E y D ((match q with|true=>m|false=>M.ab) D):=by
 obtain _|_:=q
 .show cT
 show λa=>z j
theorem OF(A:qb)(E y:V):tO A E y D (bQ C A E y D):=by
 cases E with
 |int i=>
  cases y with
  |int Y=>
   split tO A ↑i ↑Y D (M.opt ((pk A i Y).map .int) D);generalize z:pk A i Y=q;obtain _|q:=q
   .show cT
   show λb=>.int A i Y q (Oa z)
  |_=>show cT
 |str u=>
  cases y with
  |str e=>
   cases A with
   |Add=>show x' (.str u e)
   |_=>show cT
  |_=>show cT
 |J u=>
  cases y with
  |J e=>
   cases A with
   |Add=>show x' (.J u e)
   |_=>show cT
  |_=>show cT
 |ref u=>
  cases y with
  |ref e=>
   cases A with
   |Add=>
    let a:∀v l,D[u]?=v->D[e]?=l->tO .Add ⇑u ⇑e D ((match v,l with|some (.list E),I (.list y)=>(match aU (E.length+y.length) with|true=>(M.new (.list (E++y))).G λU=>M.N ⇑U|false=>M.ab)|_,_=>M.ab:Mine.M V) D):=λv l t r=>by
     obtain _|v:=v
     .show cT
     .cases v with
      |list E=>
       obtain _|l:=l
       .show cT
       .cases l with
        |list y=>show x' (.list u e E y t r)
        |_=>show cT
      |_=>show cT
    show a _ _ j j
   |_=>show cT
  |int p=>
   cases A with
   |Mult=>
    let a:∀v,D[u]?=v->tO .Mult ⇑u ↑p D ((match v with|some (.list [B])=>(match↥(0<=p)&&aU p.toNat with|true=>(M.new (.list (lV p.toNat B))).G λU=>M.N ⇑U|false=>M.ab)|_=>M.ab:Mine.M V) D):=λv t=>by
     obtain _|v:=v
     .show cT
     .cases v with
      |list E=>
       obtain _|⟨B,_|_⟩:=E
       .show cT
       .show x' (.mul u p B t)
       .show cT
      |_=>show cT
    show a _ j
   |_=>show cT
  |_=>show cT
 |_=>show cT
theorem OE{c:qb}{E y:V}{b d:ar}(w:gT H)(k:aO H ac Y D s)(O:aP H.ai Y s.heap E b)(m:aP H.ai Y s.heap y d)(h:bQ C c E y D≠.ab):
  bu H A (zu c b d) (fk H ac Y s (bQ C c E y D)) bf s:=by
 let g:=OF c E y h;clear h;revert g;generalize bQ C c E y D=q;intro g
 induction g with
 |int c f n q z=>show uB O m λr a=>OG k z
 |str u e l=>show abK O m λr a=>add_str (λo bn=>fq (v:=.str (u++e)) j k #[_,j]) (ao (hy l) ())
 |J u e l=>show OJ k O m l
 |list u e b4 cp bs i l=>show OH k O m bs i l
 |mul u p B bs l=>show uC m λa=>OI w k O bs l
end
variable{cM:ar->a3->Prop}{es:List (Int×V)}
section
variable{H:bk}
def acf{t:V->Option f2}{u:V}{e:List V}:gO t (u::e)=(match t u,gO t e with|some x,I i=>I (x::i)|_,_=>au):=j
inductive Ae(h:bj)(v:ar)(d:f2)(n:Nat):Prop
 |mk (as:List ay) (a:Reads h v d as) (b:d.canLay0=L) (c:d.depth<=n):Ae h v d n
inductive Fk(h:bj)(vs:List ar)(eD:List f2)(n:Nat):Prop
 |mk (as:List ay) (a:ReadsAll h vs eD as) (b:agh eD=L) (c:agi eD<=n):Fk h vs eD n
theorem KG{t:V->Option f2}(b:∀(u:V)(B:ar)(x:f2),t u=I x->aP H.ai Y h u B->Ae h B x n){e:List V}{O:List ar}{i:List f2}(Q:gO t e=I i)(q:bo H.ai Y h e O):Fk h O i n:=by
 induction e generalizing O i with
 |nil=>obtain rfl:=bR Q;obtain rfl:O=[]:=q;show#[[],.nil,j,ff _]
 |cons u e w=>
  obtain⟨B,f,rfl,D,c⟩:=q;rw[acf] at Q;rcases l:t u with _|x
  .rw[l] at Q;show db Q
  rcases T:gO t e with _|d
  .rw[l,T] at Q;show db Q
  rw[l,T] at Q;obtain rfl:=bR Q;obtain⟨G,v,N,o⟩:=b u B x l D;obtain⟨C,a,z,g⟩:=w T c;show#[G++C,.cons v a,by rw[agh,N,z];rfl,by rw[agi];show g9.mpr #[o,g]]
theorem KH(k:aO H ac Y D s)(U:Nat)(u:V)(B:ar)(x:f2)(Q:fc D U u=I x)(q:aP H.ai Y s.heap u B):Ae s.heap B x U:=by
 induction U generalizing u B x with
 |zero=>show db Q
 |succ U w=>
  cases u with
  |none=>obtain rfl:=bR Q;obtain rfl:B=.none:=q;show#[_,.none,j,by rw[v0];show ff _]
  |bool y=>obtain rfl:=bR Q;obtain rfl:B=.bool y:=q;show#[_,.bool _,j,by rw[v0];show ff _]
  |int i=>obtain rfl:=bR Q;obtain⟨r,rfl⟩:=q;show#[_,.int _ _,j,by rw[v0];show ff _]
  |str i=>have Q:=od (b:=gp i) (a:=MR i) Q;obtain rfl:=Q.2;obtain⟨r,rfl⟩:=q;show#[_,.str _ _,by rw[MQ,Q.1],by rw[v0];show ff _]
  |J O=>obtain⟨c,d,rfl⟩:=zf.mp (show(gO (fc D U) O).map .tuple=I x from Q);obtain⟨E,e,m,rfl,T,q⟩:=q;obtain⟨G,v,N,o⟩:=KG w d q;show#[G,.tuple T j j v,by rw[MQ,N],by rw[v0];show hJ o]
  |ref m=>
   let Q:(match D[m]? with|some (.list O)=>(gO (fc D U) O).map .list|_=>au)=I x:=Q;rcases l:D[m]? with _|f
   .rw[l] at Q;show db Q
   rw[l] at Q;cases f with
   |list O=>obtain⟨c,d,rfl⟩:=zf.mp (show(gO (fc D U) O).map .list=I x from Q);obtain⟨E,rfl,_,e,p,T,q⟩:=fR k q l;obtain⟨G,v,N,o⟩:=KG w d q;show#[_,.list T j j v,by rw[MQ,N],by rw[v0];show hJ o]
   |_=>show db Q
  |C p=>show db Q
def wu:List ay->bj->Bool->ar->Prop:=λa a q v=>v=.bool q
def K0{a:bA Bool}(Q:a=.ok q D)(k:aO H ac Y D s):d2 H ac Y s wu a (.bool q) {s with toks:=t}:= #[q,D,Y,Q,(bB.refl k).tok,j]
theorem GV{E y:V}(k:aO H ac Y D s)(b:A.units+60<kB)(O:aP H.ai Y s.heap E gj)(m:aP H.ai Y s.heap y hG)(r:hx D E y=I q):
  (cM (.bool q) s->bu H A (En .Eq gj hG) cM bf s)/\(cM (.bool !q) s->bu H A (En .NotEq gj hG) cM bf s):=by
 unfold hx at r;rcases f:fc D 60 E with _|u
 .rw[f] at r;cases r
 rcases d:fc D 60 y with _|e
 .rw[f,d] at r;cases r
 rw[f,d] at r;obtain rfl:=bR r;obtain⟨G,v,N,o⟩:=KH k 60 E gj u f O;obtain⟨C,a,z,g⟩:=KH k 60 y hG e d m;show#[SeqAt.compareEq_reads v a N z (),SeqAt.compareNe_reads v a N z ()]
def iL(T:bk)(C:List O):Prop:=∀(k:Nat)(o:O),C[k]?=I o->∃a,pE T.ai k=I a/\a≠rH/\(match o with
 |.list vs=>∃xs:Array ar,T.base.IsList a xs/\bo T.ai [] T.base vs xs.toList
 |o=>fW T.w T.ai [] T.base o a)
theorem gT.old(w:gT H)(k:aO H ac Y D s)(z:Y[n]?=I a):(a==rH)=ak:=by show beq_eq_false_iff_ne.mpr λl=>?_;obtain⟨d,N⟩:=w.abU;rw[<-l,k.sim.low a (ry z)] at N;cases N
def x3(t:List ay):cL [] t:=λU E z=>by simp at z
theorem Cx{y:V}(a:gT H)(c:iL H C)(k:aO H ac Y D s)(m:aP H.ai Y s.heap y hG)(z:dx C D y=I (.id es)):
  ∃E n,hG= ⇑E/\(E==rH)=ak/\s.heap.DictOf (kC aZ H.w) E n/\e7 H.ai Y s.heap es n:=by
 cases y with
 |ref U=>obtain⟨E,rfl,f,n,o,M⟩:=fR k m z;show#[E,n,j,a.old k f,o.dictOf,M]
 |C p=>obtain⟨E,f,o,n,M,b⟩:=c p _ z;obtain⟨l,O,rfl⟩:=m;rw[f] at O;obtain rfl:=bR O;obtain⟨d,g,N,q⟩:=M;show#[E,n,j,beq_eq_false_iff_ne.mpr o,#[d,g,_,k.dy _ _ N,q],e7.aD (cF.keeps k.dy) (x3 Y) _ _ b]
 |_=>cases z
theorem J2{y:V}{b:List (Str×V)}(a:gT H)(c:iL H C)(k:aO H ac Y D s)(m:aP H.ai Y s.heap y hG)(z:dx C D y=I (.aX b)):
  ∃E n,hG= ⇑E/\(E==rH)=ak/\s.heap.DictOf (strKind aZ H.w) E n/\e7 H.ai Y s.heap b n:=by
 cases y with
 |ref U=>obtain⟨E,rfl,f,n,o,M,_⟩:=fR k m z;show#[E,n,j,a.old k f,o,M]
 |C p=>obtain⟨E,f,o,n,M,h,_⟩:=c p _ z;obtain⟨l,O,rfl⟩:=m;rw[f] at O;obtain rfl:=bR O;obtain⟨d,g,e,N,q⟩:=M;show#[E,n,j,beq_eq_false_iff_ne.mpr o,#[d,g,e,k.dy _ _ N,q],e7.aD (cF.keeps k.dy) (x3 Y) _ _ h]
 |_=>cases z
theorem DO{h:Type}[DecidableEq h](p u:h)(B:ar)(q:List (h×ar)):lh ((p,B)::q) u=if p=u then I B else lh q u:=by unfold lh;split<;>simp_all
def Vu(u e:Int)(B:aq)(q:List (Int×aq)):d4 u ((e,B)::q)=(match↥(u=e) with|true=>I B|false=>d4 u q):=j
theorem CW(u:Int):∀{b:List (Int×V)}{n:List (Int×ar)},e7 ai Y h b n->(match d4 u b with|some v=>∃a,lh n u=I a/\aP ai Y h v a|none=>lh n u=au):=by
 intro b
 induction b with
 |nil=>intro n q;obtain rfl:n=[]:=q;rfl
 |cons r b w=>
  obtain⟨p,v⟩:=r;intro n q;obtain⟨a,g,rfl,D,c⟩:=q;rw[Vu,DO];rcases l: ↥(u=p) with _|_
  .rw[aS λQ=>rM l Q.symm];show w c
  rw[aL (bS l).symm];show#[a,j,D]
theorem yA(u:Str):∀{b:List (Str×V)}{n:List (Str×ar)},e7 ai Y h b n->(match aT u b with|some v=>∃a,lh n u=I a/\aP ai Y h v a|none=>lh n u=au):=by
 intro b
 induction b with
 |nil=>intro n q;obtain rfl:n=[]:=q;rfl
 |cons r b w=>
  obtain⟨p,v⟩:=r;intro n q;obtain⟨a,g,rfl,D,c⟩:=q;rw[B5,DO];rcases l:b_ u p with _|_
  .rw[aS λQ=>oE.mp l Q.symm];show w c
  rw[aL (gx.mp l).symm];show#[a,j,D]
end
section
variable{H:bk}
def BH:V->Bool
 |.none=>L
 |_=>ak
theorem KY{E:V}(O:aP H.ai Y h E gj):(gj==agn)=BH E:=by
 cases E with
 |none=>have Q:gj=_:=O;rw[Q];rfl
 |bool=>have Q:gj=_:=O;rw[Q];rfl
 |int=>obtain⟨r,Q⟩:=O;show Q▸j
 |str=>obtain⟨r,Q⟩:=O;show Q▸j
 |J=>obtain⟨_,_,_,Q,_⟩:=O;show Q▸j
 |ref=>obtain⟨_,_,Q⟩:=O;show Q▸j
 |C=>obtain⟨_,_,Q⟩:=O;show Q▸j
theorem KZ{E:V}(O:aP H.ai Y h E gj):plainIs gj .none=L:=by
 cases E with
 |none=>have Q:gj=_:=O;rw[Q];rfl
 |bool=>have Q:gj=_:=O;rw[Q];rfl
 |int=>obtain⟨r,Q⟩:=O;show Q▸j
 |str=>obtain⟨r,Q⟩:=O;show Q▸j
 |J=>obtain⟨_,_,_,Q,_⟩:=O;show Q▸j
 |ref=>obtain⟨_,_,Q⟩:=O;show Q▸j
 |C=>obtain⟨_,_,Q⟩:=O;show Q▸j
inductive kG(C:List O)(D:aG):mM->V->V->Bool->Prop
 |eq (a b:V) (q:Bool) (h:hx D a b=I q):kG C D .Eq a b q
 |ne (a b:V) (q:Bool) (h:hx D a b=I q):kG C D .NotEq a b (!q)
 |lt (i av:Int):kG C D .Lt ↑i ↑av ↥(i<av)
 |le (i av:Int):kG C D .LtE ↑i ↑av ↥(i<=av)
 |gt (i av:Int):kG C D .Gt ↑i ↑av ↥(av<i)
 |ge (i av:Int):kG C D .GtE ↑i ↑av ↥(av<=i)
 |is (a:V):kG C D .Is a .none (BH a)
 |IE (a:V):kG C D .IsNot a .none (!BH a)
 |Ip (i:Int) (b:V) (es:List (Int×V)) (h:dx C D b=I (.id es)):kG C D .In ↑i b (d4 i es).isSome
inductive EH(C:List O)(D:aG)(op:mM)(a b:V)(r:bA Bool):Prop
 |mk (q:Bool) (e:r=.ok q D) (c:kG C D op a b q):EH C D op a b r
def tN(C:List O)(A:mM)(a b:V)(p:aG)(q:bA Bool):Prop:=q≠.ab->EH C p A a b q
theorem ya{A:mM}{E y:V}{t:Int->Int->Bool}(z:∀i Y,kG C D A ↑i ↑Y (t i Y)):tN C A E y D ((match E,y with| ↑E,↑y=>M.N (t E y)|_,_=>M.ab) D):=by
 cases E with
 |int i=>
  cases y with
  |int Y=>show λa=> #[_,j,z i Y]
  |_=>show cT
 |_=>show cT
def JT{A:mM}{E y:V}{u:Option Bool}{f:Bool->Bool}(z:∀l,u=I l->kG C D A E y (f l)):tN C A E y D (M.opt (u.map f) D):=by
 obtain _|l:=u
 .show cT
 show λa=> #[_,j,z l j]
theorem PB(A:mM)(E y:V):tN C A E y D (bh C A E y D):=by
 cases A with
 |Eq=>show(Option.map_id_fun'▸JT (f:=λl=>l) (.eq E y):tN C .Eq E y D (M.opt (id (hx D E y)) D))
 |NotEq=>show JT (.ne E y)
 |Lt=>show ya .lt
 |LtE=>show ya .le
 |Gt=>show ya .gt
 |GtE=>show ya .ge
 |Is=>
  cases y with
  |none=>show λc=> #[_,by cases E<;>rfl,.is E]
  |_=>show cT
 |IsNot=>
  cases y with
  |none=>show λc=> #[_,by cases E<;>rfl,.IE E]
  |_=>show cT
 |In=>
  cases E with
  |int i=>
   let a:∀u,dx C D y=u->tN C .In ↑i y D ((match V.int i,u with| ↑i,I (.id b)=>M.N (d4 i b).isSome|_,_=>M.ab:Mine.M Bool) D):=λu T=>by
    obtain _|u:=u
    .show cT
    .cases u with
     |id b=>show λc=> #[_,j,.Ip i y b T]
     |_=>show cT
   show a _ j
  |_=>show cT
 |NotIn=>show cT
def T9{n:List (Int×ar)}(q:e7 H.ai Y h es n):(lh n i).isSome=(d4 i es).isSome:=by
 let q:=CW i q;revert q;obtain _|B:=d4 i es
 .show λq=>aN afQ q
 show λq=>by obtain⟨a,f,_⟩:=q;show aN afQ f
theorem PD{h:mM}{E y:V}(l:gT H)(c:iL H C)(d:aO H ac Y D s)(f:A.units+60<kB)(O:aP H.ai Y s.heap E gj)(m:aP H.ai Y s.heap y hG)(g:kG C D h E y q):
  bu H A (En h gj hG) (d2 H ac Y s wu (.ok q D)) bf s:=by
 let du:∀q,d2 H ac Y s wu (.ok q D) (.bool q) s:=λq=>K0 (t:=s.toks) j d
 induction g with
 |eq E y q z=>show(GV d f O m z).1 (du _)
 |ne E y q z=>show(GV d f O m z).2 (du _)
 |lt i e=>show uB O m λr a=>lt_int (du _)
 |le i e=>show uB O m λr a=>ahF (du _)
 |gt i e=>show uB O m λr a=>gt_int (du _)
 |ge i e=>show uB O m λr a=>ahE (du _)
 |is E=>show Cm m<|wpAny_is_plain (KZ O) (KY O▸du _)
 |IE E=>show Cm m<|wpAny_isNot_plain (KZ O) (KY O▸du _)
 |Ip i y b z=>obtain⟨x,n,Q,G,p,o⟩:=Cx l c d m z;subst Q;show uC O λr=>wpAny_in_of (knd:=kC aZ H.w) (k:=i) (cW j) G p.mapOf (T9 o▸K0 j d)
def Gc{a:mM}{E y:V}(w:gT H)(c:iL H C)(k:aO H ac Y D s)(f:A.units+60<kB)(O:aP H.ai Y s.heap E gj)(m:aP H.ai Y s.heap y hG)(h:bh C a E y D≠.ab):
  bu H A (En a gj hG) (d2 H ac Y s wu (bh C a E y D)) bf s:=by
 obtain⟨l,Q,g⟩:=PB a E y h;show Q▸PD w c k f O m g
def l0:List ay->bj->Bool->Bool->Prop:=λa a q v=>v=q
def yB{a:bA Bool}(Q:a=.ok q D)(k:aO H ac Y D s):d2 H ac Y s l0 a q {s with toks:=t}:= #[q,D,Y,Q,(bB.refl k).tok,j]
theorem abR:((x.length:Int)!=0)= !cA x.cps.size 0:=by rw[Ft];cases x.cps.size<;>rfl
def U3(z:x.cps.size<=4000000):¬(x.length:Int)>=2^63:=by rw[Ft];omega
theorem DK{E:V}(k:aO H ac Y D s)(O:aP H.ai Y s.heap E gj)(h:dp C E D≠.ab):
  bu H A (truthy gj) (d2 H ac Y s l0 (dp C E D)) bf s:=by
 cases E with
 |none=>show Cm O (truthy_none (yB (t:=s.toks) j k))
 |bool y=>show(show gj=_ from O)▸ag_ (yB (t:=s.toks) j k)
 |int i=>show uC O λr=>ahG (yB (t:=s.toks) j k)
 |str u=>have l:=gc h;let Q:dp C (.str u) D=.ok (!cA u.cps.size 0) D:=congrFun (g1 l) D;show Q▸Do O λr=>PySem.P.truthy_str (U3 (hy l)) (abR▸yB j k)
 |_=>show cT h
end
variable{vJ p1:aW}{d8 vK:ar}
section
variable{H:bk}
theorem Ds(b:aW)(d i:ar):∃o,subscripted b ak d i=operate o (M8 d i):=by
 cases b with
 |Slice T a p v=>cases p<;>show#[_,j]
 |_=>show#[_,j]
theorem aaD{p:Int}(u:0<=p)(v:p.toNat<n):seqIndex? p n=I p.toNat:=by let f:¬p<0:=rI.mpr u;let o:p<n:=(v_ u).mp v;split (if(↥(0<=(if p<0 then p+n else p))&& ↥((if p<0 then p+n else p)<n))=L then I (if p<0 then p+n else p).toNat else au)=_;rw[aS f,cW u,cW o];rfl
inductive pd(C:List O)(D:aG):V->V->V->Prop
 |J (vs:List V) (k:Int) (v:V) (h:(↥(0<=k)&&aU k.toNat)=L) (q:vs[k.toNat]?=I v):pd C D (.J vs) ↑k v
 |list (m:Nat) (vs:List V) (k:Int) (v:V) (N:D[m]?=I (.list vs)) (h:(↥(0<=k)&&aU k.toNat)=L) (q:vs[k.toNat]?=I v):pd C D ⇑m ↑k v
 |id (m:Nat) (es:List (Int×V)) (k:Int) (v:V) (N:D[m]?=I (.id es)) (q:d4 k es=I v):pd C D ⇑m ↑k v
 |aX (m:Nat) (es:List (Str×V)) (x:Str) (v:V) (N:D[m]?=I (.aX es)) (q:aT x es=I v):pd C D ⇑m (.str x) v
inductive E7(C:List O)(D:aG)(o i:V)(r:bA V):Prop
 |mk (v:V) (e:r=.ok v D) (c:pd C D o i v):E7 C D o i r
def tP(C:List O)(o i:V)(p:aG)(q:bA V):Prop:=q≠.ab->E7 C p o i q
def Cs{d i:V}{u:Option V}(z:∀B,u=I B->pd C D d i B):tP C d i D (M.opt u D):=by
 obtain _|B:=u
 .show cT
 show λa=> #[B,j,z B j]
def JS{d i:V}{u:Option V}(z:b=L->∀B,u=I B->pd C D d i B):tP C d i D ((match b with|true=>M.opt u|false=>M.ab) D):=by
 obtain _|_:=b
 .show cT
 show Cs (z j)
theorem Uc(d i:V):tP C d i D (aJ C d i D):=by
 cases i with
 |int p=>
  cases d with
  |J O=>show JS λz B l=>.J O p B z l
  |ref m=>
   let y:∀u,D[m]?=u->tP C ⇑m ↑p D ((match u with
    |some (.list O)=>match↥(0<=p)&&aU p.toNat with
     |true=>M.opt O[p.toNat]?
     |false=>M.ab
    |some (.id b)=>M.opt (d4 p b)
    |_=>M.ab:Mine.M V) D):=λu T=>by
    obtain _|u:=u
    .show cT
    .cases u with
     |list O=>show JS λz B l=>.list m O p B T z l
     |id b=>show Cs λB l=>.id m b p B T l
     |_=>show cT
   show y _ j
  |_=>show cT
 |str u=>
  cases d with
  |ref m=>
   let y:∀e,D[m]?=e->tP C ⇑m (.str u) D ((match e with
    |some (.aX b)=>M.opt (aT u b)
    |_=>M.ab:Mine.M V) D):=λe a=>by
    obtain _|e:=e
    .show cT
    .cases e with
     |aX b=>show Cs λB l=>.aX m b u B a l
     |_=>show cT
   show y _ j
  |_=>show cT
 |_=>show cT
def FT{e:ar}(z:xs.toList[n]?=I e):xs[n]?=I e:=(DX ..).symm.trans z
theorem Uh{d i B:V}(af:gT H)(c:iL H C)(aa:aO H ac Y D s)(a:aP H.ai Y s.heap d d8)(y:aP H.ai Y s.heap i vK)(ag:pd C D d i B):
  bu H A (zg vJ p1 d8 vK) (fk H ac Y s (.ok B D)) bf s:=by
 obtain⟨aj,v⟩:=Ds p1 d8 vK
 induction ag with
 |J O k B z l=>obtain⟨E,ah,U,Q,ab,g⟩:=a;obtain⟨e,M,p⟩:=g.get l;let h:=FT M;let r:=(Mo.mp h).1;let f:=bS (dj.mp z).1;subst Q;obtain⟨ae,Q⟩:=y;subst Q;show vU (T:="tuple") #[_,ab,j] D8.lookup (P.getItem_tuple ab () (by have:=hy (dj.mp z).2;omega) (aaD f r) h (fq (t:=s.toks) j aa p)) v
 |list m O k B N z l=>obtain⟨E,Q,_,ah,U,ab,g⟩:=fR aa a N;obtain⟨e,M,p⟩:=g.get l;subst Q;obtain⟨ae,Q⟩:=y;subst Q;show vU (T:="list") #[_,ab,j] agU.lookup (wpAny_getItem_list (oY ab) (bS (dj.mp z).1) (by have:=hy (dj.mp z).2;omega) (FT M) (fq (t:=s.toks) j aa p)) v
 |id m b k B N l=>obtain⟨x,n,Q,G,f,o⟩:=Cx af c aa a N;let q:=CW k o;rw[l] at q;obtain⟨e,M,p⟩:=q;subst Q;obtain⟨ae,Q⟩:=y;subst Q;show vU (T:="dict") f.typeIs agT.lookup (agY (knd:=kC aZ H.w) (k:=k) (cW j) f.mapOf M (fq j aa p)) v
 |aX m b u B N l=>obtain⟨x,n,Q,G,f,o⟩:=J2 af c aa a N;let q:=yA u o;rw[l] at q;obtain⟨e,M,p⟩:=q;subst Q;obtain⟨ae,Q⟩:=y;subst Q;show vU (T:="dict") f.typeIs agT.lookup (agY (knd:=gq aZ H.w) (k:=u) (cW j) f.mapOf M (fq j aa p)) v
def Ue{d i:V}(w:gT H)(c:iL H C)(k:aO H ac Y D s)(a:aP H.ai Y s.heap d d8)(y:aP H.ai Y s.heap i vK)(h:aJ C d i D≠.ab):
  bu H A (zg vJ p1 d8 vK) (fk H ac Y s (aJ C d i D)) bf s:=by
 obtain⟨B,Q,g⟩:=Uc d i h;show Q▸Uh w c k a y g
end
variable{kz:ar}
section
variable{H:bk}
theorem bB.set{U:Nat}{E:ay}{d B:O}{N:bj}{t:Nat}(k:aO H ac Y D s)(v:Y[U]?=I E)(o:D[U]?=I d)(m:ip B=ip d)(q:fW H.w H.ai Y N B E)
  (p:∀y z,y≠E->s.heap.get? y=I z->N.get? y=I z):df H ac Y s Y (D.set U B) {s with heap:=N,toks:=t}:=by
 let A:E∈Y:=ry v;show#[#[k.sim.set v p q,λy z Q=>p y z (λl=>?_) (k.dy y z Q),?_,k.apart,λy C z Q=>?_],k.sim.Rf v o m q p,trivial,j,j]
 .rw[l,k.sim.low E A] at Q;cases Q
 .let f:=k.fm;let u:=k.apart;generalize V:H.base=base at f;clear V k
  induction ac with
  |nil=>trivial
  |cons i M r=>obtain⟨n,⟨g,h,b,a,e,G⟩,x⟩:=f;show#[n,#[g,h,b,a,p g h (λl=>u g (by simp[eH,b]) (l▸A)) e,G],r (λy C=>u y ?_) x];simp only[eH,zF,b];show mI _ C
 .obtain⟨_,c,J,_⟩:=k.fm.mem C;have:=p y c (λl=>k.apart y C (l▸A)) J;rw[Q] at this;rw[bR this];show k.hY y C c J
def H0(T:IsL h a xs n)(p:∀y z,y≠a->h.get? y=I z->aI.get? y=I z):cF h aI:=cF.of λy z Q U=>p y z (λl=>by rw[l,T] at Q;cases Q;simp at U) Q
def Zv{d B:V}{t:Nat->List V->Mine.M aq}(z:(match d,B with| ⇑n,.J u=>t n u|_,_=>M.ab) D≠.ab):∃n u,d= ⇑n/\B=.J u:=by
 cases d
 case ref=>
  cases B
  case J=>show#[_,_,j,j]
  all_goals show cH j z
 all_goals show cH j z
theorem N_{d B:V}(k:aO H ac Y D s)(a:aP H.ai Y s.heap d d8)(i:aP H.ai Y s.heap B kz)(h:l2 d B D≠.ab):
  bu H A (call (.builtin "list.append") [d8,kz]) (fk H ac Y s (((l2 d B).G λf=>M.N .none) D)) bf s:=by
 obtain⟨m,rfl⟩:=Zr h;obtain⟨O,b7⟩:=Jj h;let Q:l2 ⇑m B D=_:=congrFun (qR b7) D;rw[Q] at h;replace Q:=Q.trans (congrFun (g1 (gc h)) D);let n:=hy (gc h);obtain⟨E,rfl,v,e,U,T,g⟩:=fR k a b7;let c:e.size=O.length:=g.length;let p:∀y z,y≠E->s.heap.get? y=I z->(s.heap.update E (vY λb=>b.push kz)).get? y=I z:=λy z C Q=>(MK _ _ (i8 C)).trans Q;let bn:=H0 T p;show zv MJ #[_,T,j] af6 (af4 _ _) (list_append E e U kz (vE (c▸n))) #[T,.none,D.set m (.list (O++[B])),Y,he Q,bB.set k v b7 j #[_,_,Ed T _,?_] p,j];rw[EC];show bo.append (bo.aD bn (cL.refl _) _ _ g) #[kz,[],j,aP.aD bn (cL.refl _) _ _ i,j]
theorem Rh{d B:V}(k:aO H ac Y D s)(a:aP H.ai Y s.heap d d8)(i:aP H.ai Y s.heap B kz)(h:sg d B D≠.ab):
  bu H A (call (.builtin "list.extend") [d8,kz]) (fk H ac Y s (((sg d B).G λt=>M.N .none) D)) bf s:=by
 obtain⟨m,u,rfl,rfl⟩:=Zv h;obtain⟨O,b7⟩:=Jj h;let Q:sg ⇑m (.J u) D=_:=congrFun (qR b7) D;rw[Q] at h;replace Q:=Q.trans (congrFun (g1 (gc h)) D);let n:=hy (gc h);obtain⟨E,rfl,v,e,U,T,g⟩:=fR k a b7;obtain⟨y,f,q,rfl,r,l⟩:=i;let c:e.size=O.length:=g.length;let o:f.size=u.length:=l.length;rw[<-c,<-o] at n;let p:∀y z,y≠E->s.heap.get? y=I z->(s.heap.update E (vY λb=>b++f)).get? y=I z:=λy z C Q=>(MK _ _ (i8 C)).trans Q;let bn:=H0 T p;show zv af9 #[_,T,j] F.entry_list_extend (F.args_list_extend_2 _ _) (AutoSeq1.list_extend_list_tuple_0 E e U y f q (by rw[show afW (e.size+f.size)=ak from f8 (vT.mpr (vE n)),y8];show kA) (vE (ao (bv ..) n)) (lW (vE n))) #[T,r,.none,D.set m (.list (O++u)),Y,he Q,bB.set k v b7 j #[_,_,Ed T _,?_] p,j];rw[Nh];show bo.append (bo.aD bn (cL.refl _) _ _ g) (bo.aD bn (cL.refl _) _ _ l)
theorem KR{d:Type}{b:List (d×V)}{n:List (d×ar)}(q:e7 ai Y h b n):n.length=b.length:=by
 induction b generalizing n with
 |nil=>obtain rfl:n=[]:=q;rfl
 |cons v b w=>obtain⟨p,B⟩:=v;obtain⟨a,g,rfl,D,c⟩:=q;show aN j4 (w c)
def U2:Option O->Mine.M V
 |some (.list vs)=>match aU vs.length with
  |true=>M.N ↑vs.length
  |false=>M.ab
 |some (.id es)=>match aU es.length with
  |true=>M.N ↑es.length
  |false=>M.ab
 |some (.aX es)=>match aU es.length with
  |true=>M.N ↑es.length
  |false=>M.ab
 |_=>M.ab
theorem U5{d:V}(w:gT H)(k:aO H ac Y D s)(a:aP H.ai Y s.heap d d8)(h:e_ d D≠.ab):
  bu H A (call (.builtin "len") [d8]) (fk H ac Y s (e_ d D)) bf s:=by
 let du:∀{q:bA V}{U m r:Nat},q=.ok (V.int m) D->U=m->fk H ac Y s q (Value.int U r) {s with toks:=s.toks+1+1}:=λl Q=>fq l k (by subst Q;show#[_,j]);generalize u:e_ d D=q at h|-;cases d with
 |J O=>have l:=iu (b:=aU O.length) (x:=M.N (V.int O.length)) u.symm h;let n:=hy l.1;obtain⟨E,e,U,rfl,T,g⟩:=a;let c:e.size=O.length:=g.length;show P.len_tuple T () (du l.2 c)
 |ref m=>
  let u:q=U2 D[m]? D:=u.symm.trans #[];rcases b7:D[m]? with _|z
  .rw[b7] at u;cases h u
  rw[b7] at u;cases z with
  |list O=>have l:=iu (b:=aU O.length) (x:=M.N (V.int O.length)) u h;let n:=hy l.1;obtain⟨E,rfl,v,e,U,T,g⟩:=fR k a b7;let c:e.size=O.length:=g.length;show Calls.call_len_list (oY T) () (du l.2 c)
  |id f=>have l:=iu (b:=aU f.length) (x:=M.N (V.int f.length)) u h;let n:=hy l.1;obtain⟨E,rfl,v,i,T,g⟩:=fR k a b7;let c:=KR g;show agB (w.old k v) T.dictOf () (du l.2 c)
  |aX f=>have l:=iu (b:=aU f.length) (x:=M.N (V.int f.length)) u h;let n:=hy l.1;obtain⟨E,rfl,v,i,T,g,_⟩:=fR k a b7;let c:=KR g;show agB (w.old k v) T () (du l.2 c)
  |_=>cases h u
 |_=>cases h u.symm
end
variable{lQ hn:ar}
section
variable{H:bk}
theorem CX{d:Type}:∀{b:List (d×V)}{n:List (d×ar)},e7 ai Y h b n->n.map (·.1)=b.map (·.1):=by
 intro b
 induction b with
 |nil=>intro n q;obtain rfl:n=[]:=q;rfl
 |cons r b w=>obtain⟨p,B⟩:=r;intro n q;obtain⟨a,g,rfl,D,c⟩:=q;simp[w c]
def Dl{h:Type}[DecidableEq h](p:h)(a B:ar)(q:List (h×ar))(z:p∉q.map (·.1)):hq ((p,a)::q) p B=(p,B)::q:=by unfold hq;have:=map_store_of_not_mem q p B z;simp[this]
def Dm{h:Type}[DecidableEq h](p u:h)(a B:ar)(q:List (h×ar))(z:p≠u):hq ((p,a)::q) u B=(p,a)::hq q u B:=by unfold hq;simp only[tw,z,decide_false,afv];split<;>simp[z]
def Ya(u e:Int)(B a:aq)(q:List (Int×aq)):d' u B ((e,a)::q)=(match↥(u=e) with|true=>(e,B)::q|false=>(e,a)::d' u B q):=j
theorem Zy(u:Int){B:V}{a:ar}(y:aP ai Y h B a):∀{b:List (Int×V)}{n:List (Int×ar)},e7 ai Y h b n->(n.map (·.1)).Nodup->e7 ai Y h (d' u B b) (hq n u a):=by
 intro b
 induction b with
 |nil=>intro n q _;subst q;show#[a,[],j,y,j]
 |cons r b w=>
  obtain⟨p,A⟩:=r;intro n q d;obtain⟨s,g,rfl,D,c⟩:=q;let d:=j0.mp d;rw[Ya];rcases l: ↥(u=p) with _|_
  .rw[Dm _ _ _ _ _ λQ=>rM l Q.symm];show#[s,_,j,D,w c d.2]
  obtain rfl:=bS l;rw[Dl _ _ _ _ d.1];show#[a,g,j,y,c]
theorem KS(u:Str){B:V}{a:ar}(y:aP ai Y h B a):∀{b:List (Str×V)}{n:List (Str×ar)},e7 ai Y h b n->(n.map (·.1)).Nodup->e7 ai Y h (put u B b) (hq n u a):=by
 intro b
 induction b with
 |nil=>intro n q _;subst q;show#[a,[],j,y,j]
 |cons r b w=>
  obtain⟨p,A⟩:=r;intro n q d;obtain⟨s,g,rfl,D,c⟩:=q;let d:=j0.mp d;rw[CR];rcases l:b_ u p with _|_
  .rw[Dm _ _ _ _ _ λQ=>oE.mp l Q.symm];show#[s,_,j,D,w c d.2]
  obtain rfl:=gx.mp l;rw[Dl _ _ _ _ d.1];show#[a,g,j,y,c]
def yz{a:Type}{b:List (a×V)}{n:List (a×ar)}(q:e7 ai Y h b n):n.length=b.length:=by have:=aN y7 (CX q);simpa using this
def SU(i:Int)(Q:V):Option O->Mine.M V
 |some (.id es)=>M.N ((d4 i es).getD Q)
 |_=>M.ab
def SX(x:Str)(Q:V):Option O->Mine.M V
 |some (.aX es)=>M.N ((aT x es).getD Q)
 |_=>M.ab
theorem S2{d k Q:V}(p:gT H)(c:iL H C)(e:aO H ac Y D s)(a:aP H.ai Y s.heap d d8)(N:aP H.ai Y s.heap k lQ)(t:aP H.ai Y s.heap Q hn)(O:∀m,k≠.J m)(h:kT C d k Q D≠.ab):
  bu H A (call (.builtin "dict.get") [d8,lQ,hn]) (fk H ac Y s (kT C d k Q D)) bf s:=by
 generalize u:kT C d k Q D=q at h|-;cases k with
 |int i=>
  obtain⟨r,rfl⟩:=N;let u:q=SU i Q (dx C D d) D:=u.symm.trans #[];rcases l:dx C D d with _|z
  .rw[l] at u;cases h u
  rw[l] at u;cases z with
  |id b=>
   obtain⟨x,n,rfl,G,f,o⟩:=Cx p c e a l;let q:=CW i o;show M3 Ea f.typeIs MI (MH _ _ _) (agM (kC aZ H.w) x (k:=i) (by simp[kC,MS]) G hn) #[_,f.mapOf,?_];show fq (v:=(d4 i b).getD Q) u e ?_;rcases T:d4 i b with _|B
   .rw[T] at q;rw[show lh n i=au from q];show t
   rw[T] at q;obtain⟨E,g,y⟩:=q;rw[g];show y
  |_=>cases h u
 |str i=>
  obtain⟨r,rfl⟩:=N;let u:q=SX i Q (dx C D d) D:=u.symm.trans #[];rcases l:dx C D d with _|z
  .rw[l] at u;cases h u
  rw[l] at u;cases z with
  |aX b=>
   obtain⟨x,n,rfl,G,f,o⟩:=J2 p c e a l;let q:=yA i o;show M3 Ea f.typeIs MI (MH _ _ _) (agM (gq aZ H.w) x (k:=i) (by simp[gq,o2]) G hn) #[_,f.mapOf,?_];show fq (v:=(aT i b).getD Q) u e ?_;rcases T:aT i b with _|B
   .rw[T] at q;rw[show lh n i=au from q];show t
   rw[T] at q;obtain⟨E,g,y⟩:=q;rw[g];show y
  |_=>cases h u
 |J m=>cases(O m) j
 |_=>cases h (u.symm.trans #[])
end
variable{key:ar}{b0:O}{kvs:List (Str×ar)}
section
variable{H:bk}
def rU:List ay->bj->Unit->Unit->Prop:=λa a a a=>True
def jB(u:j5 a h aI):∀y z,y≠a->h.get? y=I z->aI.get? y=I z:=λy z C Q=>(u.2 y C).trans Q
theorem l6{z:Obj}(u:j5 a h aI)(A:h.get? a=I z)(U:z.cls≠.type "tuple"):cF h aI:=cF.of λy d Q f=>jB u y d (λl=>U (by rw[l,A] at Q;injections Q;show f)) Q
theorem bo.set{t:List ay}{z:bj}{n:ay}{B:V}{a:ar}(y:aP n t z B a):∀{E:List V}{u:List ar}(U:Nat),bo n t z E u->bo n t z (E.set U B) (u.set U a)
 |[],u,U,f=>by obtain rfl:u=[]:=f;rfl
 |A::E,u,0,f=>by obtain⟨s,g,rfl,M,b⟩:=f;show#[a,g,j,y,b]
 |A::E,u,U+1,f=>by obtain⟨s,g,rfl,M,b⟩:=f;show#[s,_,j,M,bo.set y U b]
def Lx{h:Type}[DecidableEq h]{n:List (h×ar)}{p:h}:(p∈n.map (·.1)->(hq n p v).length=n.length)/\(p∉n.map (·.1)->(hq n p v).length=n.length+1):=by
 let k:(n.any λg=> ↥(g.1=p))=L↔p∈n.map (·.1):=by
  rw[wa,tj];constructor
  .rintro⟨g,f,o⟩;show#[g,f,bS o]
  .rintro⟨g,f,o⟩;show#[g,f,cW o]
 unfold hq;show#[λz=>?_,λz=>?_]
 .rw[aL (k.mpr z),fU]
 .rw[aS λl=>z (k.mp l)];simp
theorem Qp{h:Type}[DecidableEq h]{a:MM aZ H.w h}{x:ay}{n:List (h×ar)}{p:h}{d:Unit->a3->Prop}(e:a.is p key=L)(i:s.heap.DictAt a x n n.length)
  (q:∀r,r.DictAt a x (hq n p v) (hq n p v).length->j5 x s.heap r->d bL {s with heap:=r,toks:=s.toks+1})(M:n.length<=j9):bu H A (zw x key v) d bf s:=by
 obtain⟨ac,b,N,U,G,O,t,u⟩:=i;let B:b.size<=j9:=by
  let aa:=t.length;let ab:b.toList.length=b.size:=by simp
  omega
 let m:(b.findIdx? λQ=>a.is p Q.key)=n.findIdx? λg=> ↥(g.1=p):=by rw[<-t.findIdx p];obtain⟨T⟩:=b;simp
 unfold zw
 try with_reducible show iK ?_
 show be (a.pyHash e ?_);unfold agG
 try with_reducible show iK ?_
 show be (wpAny_dictFind_of (s:={s with toks:=s.toks+1}) e N G O ?_);cases J:b.findIdx? λQ=>a.is p Q.key with
 |some Y=>
  let k:=any_of_findIdx_some (m▸J);let D:p∈n.map (·.1):=by obtain⟨g,f,o⟩:=wa.mp k;show tj.mpr #[g,f,bS o]
  show be (v8 (be (wpAny_updateDict (s:={s with toks:=s.toks+1}) N G (wpAny_point (q _ ?_ (p' ..))))));rw[Lx.1 D];show#[_,_,qa _ N (MP (aga G _)),U.mapDict _,aga G _,O.modify _ _,?_,?_]
  .rw[hq,aL k];let c:(b.toList.findIdx? λQ=>a.is p Q.key)=I Y:=by rw[<-J];obtain⟨T⟩:=b;simp
   have:=t.modify u c v;simpa using this
  .rw[hq,aL k,agL];show u
 |none=>
  let l:p∉n.map (·.1):=not_mem_of_findIdx_none (m▸J);let k:¬(n.any λg=> ↥(g.1=p))=L:=by rw[wa];rintro⟨g,j,V⟩;show l (tj.mpr #[g,j,bS V])
  show be (v8 (aha (hz:=B) (s:={s with toks:=s.toks+1}) N G (q _ ?_ (p' ..))));rw[Lx.2 l];show#[_,_,qa _ N (MP (MO G _)),U.mapDictKeys _,MO G _,O.push e _,?_,?_]
  .rw[hq,aS k];have:=t.append e (a.hash p) v;simpa using this
  .rw[hq,aS k,Mr,y9];show#[u,by simp,λE z y C=>?_];simp only[th,afl,fC] at C;subst C;show λQ=>l (Q▸z)
def aaM{h:Type}[DecidableEq h]{knd:MM aZ H.w h}{x:ay}{n:List (h×ar)}{k:h}{d:Unit->a3->Prop}(e:knd.is k key=L)(i:s.heap.DictAt knd x n n.length)
  (q:∀N,N.DictAt knd x (hq n k v) (hq n k v).length->j5 x s.heap N->d bL {s with heap:=N,toks:=s.toks+1})(M:n.length<=j9):bu H A (o7 ⇑x key v) d bf s:=by
 let o:=i.dictOf.typeIs (s:=s);unfold o7
 try with_reducible show iK ?_
 show be (Ez o () ?_);show be (Ex (name:=j6 "__setitem__") o Et (zA Et o agH ?_ (agA _ _ _)));show be (ag4 o ?_);split cE _ _ (zw x key v>>=_) _ _ s;show be (Qp e i (λN a b=>cK #[.none,j,cK (q N a b)]) M)
def Lg{m:Nat}{p:Int}{B:V}{kvs:List (Int×ar)}{q:bA Unit}(e:aO H ac Y D s)(v:Y[m]?=I a)(N:D[m]?=I b0)
  (U:ip (.id es)=ip b0)(f:s.heap.DictAt (kC aZ H.w) a kvs kvs.length)(o:e7 H.ai Y s.heap es kvs)(i:aP H.ai Y s.heap B kz)(b:es.length<=4000000)(Q:q=.ok bL (D.set m (.id (d' p B es)))):
  bu H A (o7 ⇑a (.int p t) kz) (d2 H ac Y s rU q) bf s:=by
 obtain⟨l,g,h,T,n,c,z,d⟩:=id f;show aaM (knd:=kC aZ H.w) (k:=p) (by simp[kC,MS]) f (λj G C=>?_) (by rw[yz o];unfold j9;omega);let bn:=l6 C h (r_ T.1);show#[bL,_,Y,Q,bB.set e v N U #[_,G,Zy p (aP.aD bn (cL.refl _) _ _ i) (e7.aD bn (cL.refl _) _ _ o) d] (jB C),trivial]
def Kq{B:aq}{b:List (Str×aq)}:put x B b≠[]:=by
 obtain _|⟨v,q⟩:=b
 .show λz=>nomatch z
 obtain⟨e,a⟩:=v;rw[CR];cases b_ x e<;>show λz=>nomatch z
def aaO{m:Nat}{p:Str}{B:V}{b:List (Str×V)}{q:bA Unit}(e:aO H ac Y D s)(v:Y[m]?=I a)(N:D[m]?=I b0)
  (U:ip (.aX b)=ip b0)(f:s.heap.DictOf (gq aZ H.w) a kvs)(o:e7 H.ai Y s.heap b kvs)(i:aP H.ai Y s.heap B kz)(r:b.length<=4000000)(Q:q=.ok bL (D.set m (.aX (put p B b)))):
  bu H A (o7 ⇑a (.str p t) kz) (d2 H ac Y s rU q) bf s:=by
 obtain⟨u,g,j,h,T,x,c,z,d⟩:=id f;show wpAny_setItem_pairs (knd:=gq aZ H.w) (k:=p) (by simp[gq,o2]) f (λn G C=>?_) (by rw[yz o];unfold j9;omega);let bn:=l6 C h (r_ T.1);show#[bL,_,Y,Q,bB.set e v N U #[_,G,KS p (aP.aD bn (cL.refl _) _ _ i) (e7.aD bn (cL.refl _) _ _ o) d,λl=>cH l Kq] (jB C),trivial]
theorem abJ{T:ay}{m:Array ar}{p:Int}{r:Tok}{d:Unit->a3->Prop}(b:IsL s.heap T m n)(u:0<=p)(a:p<2^63)(O:p<m.size)
  (z:d bL {s with heap:=s.heap.update T (vY (·.setIfInBounds p.toNat v))}):bu H A (o7 ⇑T (.int p r) v) d bf s:=by
 let o:s.TypeIs ⇑T "list":= #[_,b,j];unfold o7
 try with_reducible show iK ?_
 show be (Ez o () ?_);show be (Ex (name:=j6 "__setitem__") o agV (zA agV o entry_list_setitem ?_ (args_list_setitem _ _ _)));split cE _ _ (ahM (.int p r)>>=_) _ _ s;show be (wpAny_listSubscript_int (fitsIndex_of u a) ?_);obtain⟨Y,rfl⟩:=zr u;let c:Y<m.size:=by omega
 let x:m[Y]?=I m[Y]:=Array.getElem?_eq_getElem c;show be (be (wpAny_seqItemAt b j (cK ?_)));rw[x];show be (wpAny_setSeqItemAt b j ?_);show cK #[.none,j,cK z]
theorem aaN{m:Nat}{p:Int}{B:V}{q:bA Unit}(k:aO H ac Y D s)(a:aP H.ai Y s.heap ⇑m d8)(N:D[m]?=I (.list vs))(i:aP H.ai Y s.heap B kz)
  (u:0<=p)(r:p.toNat<vs.length)(b:p.toNat<=4000000)(Q:q=.ok bL (D.set m (.list (vs.set p.toNat B)))):bu H A (o7 d8 (.int p t) kz) (d2 H ac Y s rU q) bf s:=by
 obtain⟨E,rfl,v,e,U,T,g⟩:=fR k a N;show abJ T u (nM (Ng.mp b) ()) ((v_ u).mp (za r g.length.symm)) ?_;let C:j5 E s.heap (s.heap.update E (vY (·.setIfInBounds p.toNat kz))):=p' ..;let bn:=l6 C T (I8 j);show#[bL,_,Y,Q,bB.set k v N j #[_,_,Ed T _,?_] (jB C),trivial];rw[Array.toList_setIfInBounds];show bo.set (aP.aD bn (cL.refl _) _ _ i) p.toNat (bo.aD bn (cL.refl _) _ _ g)
end
variable{c:b5}{pos:Pos}{sc:gS}
section
variable{H:bk}
def zW(T:bk)(b:List (Str×V)):Prop:=∀x v,aT x b=I v->∃a,T.qW x=I a/\∀Y h,aP T.ai Y h v a
theorem PU{p:Const}{a:Nat}(k:aO H ac Y D s)(h:wU p D≠.ab):bu H A (eval (.Constant p a pos) ae) (fk H ac Y s (wU p D)) bf s:=by
 cases p with
 |none=>show Constant_none (fq (t:=s.toks) j k j)
 |bool y=>show Constant_bool (fq (t:=s.toks) j k j)
 |int i=>show wpAny_Constant_int (fq j k #[_,j])
 |str u=>show afZ (fq j k #[_,j])
 |_=>cases h j
theorem ID(z:m_ sc x=L):jk x=L:=by
 let z:(match(generalizing:=false) aT x sc.names with
  |some .globalImplicit=>jk x
  |_=>ak)=L:=z
 rcases l:aT x sc.names with _|p
 .rw[l] at z;cases z
 rw[l] at z;cases p with
 |globalImplicit=>show z
 |_=>cases z
def Wm(w:gT H)(b:zW H c.gt)(J:mS c.sc ae ac)(g:br H.ai ae aj Y s.heap)(k:aO H ac Y D s)(h:sn c aj x D≠.ab):
  bu H A (eval (.Name x pos) ae) (fk H ac Y s (sn c aj x D)) bf s:=by
 let Q:sn c aj x D=(match(generalizing:=false) jk x with
  |true=>match aT x aj with
   |some B=>M.N B
   |none=>match m_ c.sc x with
    |true=>M.opt (aT x c.gt)
    |false=>M.ab
  |false=>M.ab:Mine.M V) D:=j
 generalize sn c aj x D=n at Q h|-;rcases l:jk x with _|_
 .rw[l] at Q;cases h Q
 rw[l] at Q;let G:=x1 l;rcases bs:aT x aj with _|B
 .rw[bs] at Q;rcases i:m_ c.sc x with _|_
  .rw[i] at Q;cases h Q
  rw[i] at Q;rcases e:aT x c.gt with _|B
  .rw[e] at Q;cases h Q
  rw[e] at Q;obtain⟨a,f,q⟩:=b x B e;show MD J.kind (J.top x i) (af1 (w.yb.keeps k.dy|>λz=>by rw[J.glob];show z) f (fq (t:=s.toks) Q k (q Y s.heap))) G.1
 rw[bs] at Q;obtain⟨m,v,d⟩:=g.names;show wpAny_Name ?_ G.1;obtain⟨p,a,f,q⟩|⟨p,C,a,U,_,E,q⟩:=d x B bs
 .show ag1 J.kind p v f (fq (t:=s.toks) Q k q)
 .obtain p|p:=p
  .show agZ J.kind p U E (fq (t:=s.toks) Q k q)
  .show ag0 J.kind p U E (fq (t:=s.toks) Q k q) G.2
def LQ{a:ar}(w:gT H)(J:mS c.sc ae ac)(k:aO H ac Y D s)(z:m_ c.sc x=L)(f:H.qW x=I a)(r:cM a s):
  bu H A (eval (.Name x pos) ae) cM bf s:=
 MD J.kind (J.top x z) (af1 (w.yb.keeps k.dy|>λz=>by rw[J.glob];show z) f r) (x1 (ID z)).1
def n4{a:ar}(w:gT H)(J:mS c.sc ae ac)(k:aO H ac Y D s)(z:m_ c.sc x=L)(f:H.qW x=au)(C:H.or x=I a)(r:cM a s):
  bu H A (eval (.Name x pos) ae) cM bf s:=
 MD J.kind (J.top x z) (loadGlobal_builtin (w.yb.keeps k.dy|>λz=>by rw[J.glob];show z) f (w.WK.keeps k.dy|>λz=>by rw[J.blt];show z) C r) (x1 (ID z)).1
end
variable{aB U:Nat}{DR:Sem ar}{e:aW}
structure rP(H:bk)(C:List O)(gt:List (Str×V)):Prop where
 base:gT H
 gt:zW H gt
 C:iL H C
structure dC(H:bk)(aB U:Nat)(c:b5)(A:iH)(ac:List Env)(ae:Env)(n:Nat):Prop where
 ok:mS c.sc ae ac
 frames:A.frames=I ac
 handled:c.aM=ak->A.handled=au
 depth:A.depth<=aB
 units:A.units+4*n<=U
 line:U+60<kB
theorem dC.low{T:bk}(u:dC T aB U c A ac ae (n+1)):dC T aB U c A ac ae n:= #[u.ok,u.frames,u.handled,u.depth,ao (e3 (nD 4 (j3 n)) _) u.units,u.line]
theorem dC.u{T:bk}(a:dC T aB U c A ac ae n):A.units+60<kB:=rB (c_ (ao (bv ..) a.units) 60) a.line
section
variable{H:bk}{Fc:oZ}
def du{t:Sem aC}{c:ii H.ai}(P:bB H ac c Y s a0 bM ba)(z:cE Fc A t (jw H ac c a0 ba R r) (dN H ac c a0 ba r) ba):cE Fc A t (jw H ac c Y s R r) (dN H ac c Y s r) ba:=eb z (λB e x=>x.trans P) λQ e x=>x.trans P
end
section
variable(H:bk)(aB U:Nat)(c:b5)
def dm(a:Nat):Prop:=∀{A ac ae aj Y s D e},dC H aB U c A ac ae a->aO H ac Y D s->br H.ai ae aj Y s.heap->ev c a e aj D≠.ab->
 ht H A ac Y s (eval e ae) (ev c a e aj D)
def qn(a:Nat):Prop:=∀{A ac ae aj Y s D e},dC H aB U c A ac ae a->aO H ac Y D s->br H.ai ae aj Y s.heap->gP c a e aj D≠.ab->
 bu H A (rG e ae (eval e ae)) (d2 H ac Y s l0 (gP c a e aj D)) (fX H ac Y s (gP c a e aj D)) s
def z6(a:Nat):Prop:=∀{A ac ae aj Y s D op es},dC H aB U c A ac ae a->aO H ac Y D s->br H.ai ae aj Y s.heap->nZ c a op es aj D≠.ab->
 bu H A (M1 op es ae) (d2 H ac Y s l0 (nZ c a op es aj D)) (fX H ac Y s (nZ c a op es aj D)) s
def z7(a:Nat):Prop:=∀{A ac ae aj Y s D op es pos},dC H aB U c A ac ae a->aO H ac Y D s->br H.ai ae aj Y s.heap->pz c a op es aj D≠.ab->
 ht H A ac Y s (boolOp pos op (M5 es ae)) (pz c a op es aj D)
def Aa:List ay->bj->List V->List ar->Prop:=λY h=>bo H.ai Y h
def qm(a:Nat):Prop:=∀{A ac ae aj Y s D es pos},dC H aB U c A ac ae a->aO H ac Y D s->br H.ai ae aj Y s.heap->jD c a es aj D≠.ab->
 bu H A (ts (lg pos (j_ es ae))) (d2 H ac Y s (Aa H) (jD c a es aj D)) (fX H ac Y s (jD c a es aj D)) s
end
section
variable{H:bk}
theorem br.go(g:br H.ai ae aj Y s.heap)(k:aO H ac Y D s)(P:df H ac Y s a0 bM ba):br H.ai ae aj a0 ba.heap:=g.ext k.sim.rl P.ext
theorem aP.go{u:V}(q:aP H.ai Y s.heap u v)(k:aO H ac Y D s)(P:df H ac Y s a0 bM ba):aP H.ai a0 ba.heap u v:=aP.ext k.sim P.ext q
theorem bo.go{u:List V}{B:List ar}(q:bo H.ai Y s.heap u B)(k:aO H ac Y D s)(P:df H ac Y s a0 bM ba):bo H.ai a0 ba.heap u B:=bo.ext k.sim P.ext q
def US{a:Sem aC}(P:df H ac Y s a0 bM ba)(z:bu H A a (d2 H ac a0 ba R r) (λb b=>False) ba):bu H A a (d2 H ac Y s R r) (fX H ac Y s r) ba:=eb z (λB C u=>u.trans P) λb b u=>u.elim
def hC{a:Sem aC}{m:bA aq}(Q:m=r)(P:df H ac Y s a0 bM ba)(z:bu H A a (d2 H ac a0 ba R r) (λb b=>False) ba):bu H A a (d2 H ac Y s R m) (fX H ac Y s m) ba:=Q▸US P z
def l_{a:Sem aC}{m:bA aq}(Q:m=r)(P:df H ac Y s a0 bM ba)(z:bu H A a (d2 H ac a0 ba R r) (fX H ac a0 ba r) ba):bu H A a (d2 H ac Y s R m) (fX H ac Y s m) ba:=Q▸du P z
def s3(z:aU n=L):n<=j9:=ao (hy z) (show 4000000<=j9 by decide)
def Qv{T q:aW}(a:rP H c.C c.gt)(w:dm H aB U c n)(J:dC H aB U c A ac ae n)(k:aO H ac Y D s)(g:br H.ai ae aj Y s.heap)
  (Q:m=(ev c n T aj).G λE=>(ev c n q aj).G λy=>bQ c.C op E y)(h:m D≠.ab):ht H A ac Y s (eval (.BinOp T op q pos) ae) (m D):=by
 show wpAny_BinOp (fs (congrFun Q D) h (λz=>w J k g z) λE p x b V r o f=>?_);show k6 r f h (λz=>w J r.aK (g.go k r) z) λy v u l e j t i d=>?_;show hC d j (OE a.base t.aK (o.go r.aK t) i (d5 d h))
def QF{T:aW}(w:dm H aB U c n)(J:dC H aB U c A ac ae n)(k:aO H ac Y D s)(g:br H.ai ae aj Y s.heap)
  (Q:m=(ev c n T aj).G λE=>(dp c.C E).G λy=>M.N (.bool !y))(h:m D≠.ab):ht H A ac Y s (eval (.UnaryOp .Not T pos) ae) (m D):=by
 show UnaryOp_ (fs (congrFun Q D) h (λz=>w J k g z) λE q x p V r o f=>?_);show not_of (eb (DK (bf:=λt t=>False) r.aK o (jA (d5 f h))) (λy e a=>?_) λt t u=>u.elim);obtain⟨l,i,j,d,b,O⟩:=a;show#[.bool !l,i,j,f.trans (he d),r.trans b,aN (λy=>Value.bool !y) (show y=l from O)]
def QA{b E y:aW}(a:qn H aB U c n)(w:dm H aB U c n)(J:dC H aB U c A ac ae n)(k:aO H ac Y D s)(g:br H.ai ae aj Y s.heap)
  (Q:m=(gP c n b aj).G λ|true=>ev c n E aj|false=>ev c n y aj)(h:m D≠.ab):ht H A ac Y s (eval (.IfExp b E y pos) ae) (m D):=by
 show IfExp_ (fs (congrFun Q D) h (λz=>a J k g z) λl q x B V r o f=>?_);rw[show B=l from o];obtain _|_:=l
 .show l_ f r (w J r.aK (g.go k r) (d5 f h))
 show l_ f r (w J r.aK (g.go k r) (d5 f h))
theorem JN{q:aW}(A:mM)(z:gK q=L):behindInMarks A q=ak:=by cases q<;>first|rfl|show cY z
def Qx{T q:aW}{aa:mM}(a:rP H c.C c.gt)(w:dm H aB U c n)(J:dC H aB U c A ac ae n)(k:aO H ac Y D s)(g:br H.ai ae aj Y s.heap)(x:gK q=L)
  (Q:m=(ev c n T aj).G λE=>(ev c n q aj).G λy=>(bh c.C aa E y).G λl=>M.N (.bool l))(h:m D≠.ab):ht H A ac Y s (eval (.Compare T [aa] [q] pos) ae) (m D):=by
 show wpAny_Compare1 (fs (congrFun Q D) h (λz=>w J k g z) λE al ap an V r o f=>?_) (JN aa x);show k6 r f h (λz=>w J r.aK (g.go k r) z) λy v aq ao e j t i d=>?_;show eb (Gc (bf:=λ_ _=>False) a.base a.C t.aK J.u (o.go r.aK t) i (jA (d5 d h))) (λB am p=>?_) λ_ _ ag=>ag.elim;obtain⟨l,af,ah,p,b,O⟩:=p;show#[.bool l,af,ah,d.trans (he p),j.trans b,O]
def abX{T q:aW}{N:mM}(a:rP H c.C c.gt)(w:dm H aB U c n)(J:dC H aB U c A ac ae n)(k:aO H ac Y D s)(g:br H.ai ae aj Y s.heap)(x:gK q=L){m:Mine.M Bool}
  (Q:m=(ev c n T aj).G λE=>(ev c n q aj).G λy=>bh c.C N E y)(h:m D≠.ab):bu H A (rG (.Compare T [N] [q] pos) ae DR) (d2 H ac Y s l0 (m D)) (fX H ac Y s (m D)) s:=by
 show wpAny_isTrue_Compare1 (fs (congrFun Q D) h (λz=>w J k g z) λE al ap an V r o f=>?_) (JN N x);show k6 r f h (λz=>w J r.aK (g.go k r) z) λy v aq ao e aa t i d=>?_;show eb (Gc (bf:=λ_ _=>False) a.base a.C t.aK J.u (o.go r.aK t) i (d5 d h)) (λB am p=>?_) λ_ _ ag=>ag.elim;obtain⟨l,af,ah,p,b,O⟩:=p;rw[show B=.bool l from O];show ag_ #[l,af,ah,d.trans p,aa.trans b,j]
def abZ{T:aW}(a:qn H aB U c n)(J:dC H aB U c A ac ae n)(k:aO H ac Y D s)(g:br H.ai ae aj Y s.heap){m:Mine.M Bool}
  (Q:m=(gP c n T aj).G λy=>M.N !y)(h:m D≠.ab):bu H A (rG (.UnaryOp .Not T pos) ae DR) (d2 H ac Y s l0 (m D)) (fX H ac Y s (m D)) s:=by
 show isTrue_not (fs (congrFun Q D) h (λz=>a J k g z) λl q x B V r o f=>?_);rw[show B=l from o];show#[!l,q,x,f,r,j]
def abY{b E y:aW}(a:qn H aB U c n)(J:dC H aB U c A ac ae n)(k:aO H ac Y D s)(g:br H.ai ae aj Y s.heap){m:Mine.M Bool}
  (Q:m=(gP c n b aj).G λ|true=>gP c n E aj|false=>gP c n y aj)(h:m D≠.ab):bu H A (rG (.IfExp b E y pos) ae DR) (d2 H ac Y s l0 (m D)) (fX H ac Y s (m D)) s:=by
 show isTrue_IfExp (fs (congrFun Q D) h (λz=>a J k g z) λl q x B V r o f=>?_);rw[show B=l from o];obtain _|_:=l
 .show l_ f r (a J r.aK (g.go k r) (d5 f h))
 show l_ f r (a J r.aK (g.go k r) (d5 f h))
def ab0{u:aW}(w:dm H aB U c n)(J:dC H aB U c A ac ae n)(k:aO H ac Y D s)(g:br H.ai ae aj Y s.heap){m:Mine.M Bool}
  (Q:m=(ev c n u aj).G λv=>dp c.C v)(V:rG u ae (eval u ae)=(do let v<-eval u ae;v7 u.pos;M9 [v] (truthy v)))(h:m D≠.ab):
  bu H A (rG u ae (eval u ae)) (d2 H ac Y s l0 (m D)) (fX H ac Y s (m D)) s:=by
 show isTrue_plain (fs (congrFun Q D) h (λz=>w J k g z) λl q x v a r o f=>?_) V;show hC f r (DK r.aK o (d5 f h))
def QH{b:List aW}(p:qm H aB U c n)(d:dC H aB U c A ac ae n)(a:aO H ac Y D s)(g:br H.ai ae aj Y s.heap)
  (Q:m=(jD c n b aj).G λO=>match aU O.length with|true=>M.N (.J O)|false=>M.ab)(h:m D≠.ab):ht H A ac Y s (eval (.Tuple b k pos) ae) (m D):=by
 show Tuple_ (fs (congrFun Q D) h (λz=>p d a g z) λO q x e V r o f=>?_);let l:=iu f h;show hC l.2 r (wpAny_newTuple (CZ (t:=V.toks) j r.aK o) (ao (ds (bo.length o)) (s3 l.1)))
def QC{b:List aW}(p:qm H aB U c n)(J:dC H aB U c A ac ae n)(k:aO H ac Y D s)(g:br H.ai ae aj Y s.heap)
  (Q:m=(jD c n b aj).G λO=>match aU O.length with|true=>(M.new (.list O)).G λi=>M.N ⇑i|false=>M.ab)(h:m D≠.ab):ht H A ac Y s (eval (.List b pos) ae) (m D):=by
 show List_ (fs (congrFun Q D) h (λz=>p J k g z) λO q x e V r o f=>?_);let l:=iu f h;show hC l.2 r (ag3 (yC (t:=V.toks) j r.aK o) (ao (ds (bo.length o)) (s3 l.1)))
def GJ{B i:aW}(a:rP H c.C c.gt)(w:dm H aB U c n)(J:dC H aB U c A ac ae n)(k:aO H ac Y D s)(g:br H.ai ae aj Y s.heap)
  (Q:m=(ev c n B aj).G λM=>(ev c n i aj).G λp=>aJ c.C M p)(h:m D≠.ab):ht H A ac Y s (eval (.Subscript B i pos) ae) (m D):=by
 show Subscript_ (fs (congrFun Q D) h (λz=>w J k g z) λE q x b V r o f=>?_);show k6 r f h (λz=>w J r.aK (g.go k r) z) λy v N l e j t u d=>?_;show hC d j (Ue a.base a.C t.aK (o.go r.aK t) u (d5 d h))
def aak(k:aO H ac Y D s){q:bA (List V)}(Q:q=.ok [] D):bu H A (ts (lg pos (j_ [] ae))) (d2 H ac Y s (Aa H) q) (fX H ac Y s q) s:=D' #[[],D,Y,Q,.refl k,j]
theorem vC{q:List aW}(z:vc e=L):j_ (e::q) ae=(ak,eval e ae)::j_ q ae:=by cases e<;>first|rfl|show cY z
def Z6{u:aW}{q:List aW}(w:dm H aB U c n)(p:qm H aB U c n)(J:dC H aB U c A ac ae n)(k:aO H ac Y D s)(g:br H.ai ae aj Y s.heap)(T:vc u=L){m:Mine.M (List V)}
  (Q:m=(ev c n u aj).G λB=>(jD c n q aj).G λO=>M.N (B::O))(h:m D≠.ab):bu H A (ts (lg pos (j_ (u::q) ae))) (d2 H ac Y s (Aa H) (m D)) (fX H ac Y s (m D)) s:=by
 rw[vC T];show zi (fs (congrFun Q D) h (λz=>w J k g z) λE aa x b af r o f=>?_);show k6 r f h (λz=>p J r.aK (g.go k r) z) λy v a l e C t i d=>?_;show#[E::y,v,a,d,C,b,l,j,o.go r.aK t,i]
end
section
variable{H:bk}
theorem NU{a:tn}(k:aO H ac Y D s){q:bA Bool}(Q:q=.ok (match a with|.And=>L|.Or=>ak) D):bu H A (M1 a [] ae) (d2 H ac Y s l0 q) (fX H ac Y s q) s:=by show cK #[_,D,Y,Q,.refl k,?_];cases a<;>rfl
theorem NT{d:tn}{u:aW}{q:List aW}(a:qn H aB U c n)(b:z6 H aB U c n)(J:dC H aB U c A ac ae n)(k:aO H ac Y D s)(g:br H.ai ae aj Y s.heap){m:Mine.M Bool}
  (Q:m=(gP c n u aj).G λy=>match d,y with|.And,ak=>M.N ak|.Or,L=>M.N L|.And,L=>nZ c n .And q aj|.Or,ak=>nZ c n .Or q aj)(h:m D≠.ab):
  bu H A (M1 d (u::q) ae) (d2 H ac Y s l0 (m D)) (fX H ac Y s (m D)) s:=by
 show be (fs (congrFun Q D) h (λz=>a J k g z) λl e x B V r o f=>?_);obtain rfl:B=l:=o;cases d<;>cases B
 .show cK #[_,e,x,f,r,j]
 .show l_ f r (b J r.aK (g.go k r) (d5 f h))
 .show l_ f r (b J r.aK (g.go k r) (d5 f h))
 .show cK #[_,e,x,f,r,j]
theorem On{i:tn}{u e:aW}{q:List aW}(w:dm H aB U c n)(a:z7 H aB U c n)(J:dC H aB U c A ac ae n)(k:aO H ac Y D s)(g:br H.ai ae aj Y s.heap)
  (Q:m=(ev c n u aj).G λB=>(dp c.C B).G λy=>match i,y with|.And,ak=>M.N B|.Or,L=>M.N B|.And,L=>pz c n .And (e::q) aj|.Or,ak=>pz c n .Or (e::q) aj)(h:m D≠.ab):
  ht H A ac Y s (boolOp pos i (M5 (u::e::q) ae)) (m D):=by
 show be (fs (congrFun Q D) h (λz=>w J k g z) λE aa x ag V r o f=>?_);show be (EA (be (iK ?_)));show eb (DK (bf:=λ_ _=>False) r.aK o (jA (d5 f h))) (λy af v=>?_) λ_ _ u=>u.elim;obtain⟨l,j,p,T,b,O⟩:=v;let d:=f.trans (he T);let t:=r.trans b;obtain rfl:y=l:=O;cases i<;>cases y
 .show cK #[E,j,p,d,t,o.go r.aK b]
 .show l_ d t (a J b.aK (g.go k t) (d5 d h))
 .show l_ d t (a J b.aK (g.go k t) (d5 d h))
 .show cK #[E,j,p,d,t,o.go r.aK b]
end
variable{lo dh:Option Int}
section
variable{H:bk}
theorem QE{T:aW}(w:dm H aB U c n)(J:dC H aB U c A ac ae n)(k:aO H ac Y D s)(g:br H.ai ae aj Y s.heap)
  (Q:m=(ev c n T aj).G λ| ↑i=>M.N ↑(-i)|_=>M.ab)(h:m D≠.ab):ht H A ac Y s (eval (.UnaryOp .USub T pos) ae) (m D):=by
 show UnaryOp_ (fs (congrFun Q D) h (λz=>w J k g z) λE q x b V r o f=>?_);cases E with
 |int i=>obtain⟨a,rfl⟩:=o;show hC f r (neg_int (fq (v:= ↑(-i)) j r.aK #[_,j]))
 |_=>cases h f
def fH(T:bk):List ay->bj->Option V->ar->Prop:=λY h x v=>match x with
 |none=>v=.none
 |some x=>aP T.ai Y h x v
def z8(T:bk)(t a:Nat)(g:b5)(U:Nat):Prop:=∀{A ac ae aj Y s D x},dC T t a g A ac ae U->aO T ac Y D s->br T.ai ae aj Y s.heap->qB g U x aj D≠.ab->
 bu T A (M7 x ae) (d2 T ac Y s (fH T) (qB g U x aj D)) (fX T ac Y s (qB g U x aj D)) s
def WS(k:aO H ac Y D s){q:bA (Option V)}(Q:q=.ok au D):bu H A (M7 au ae) (d2 H ac Y s (fH H) q) (fX H ac Y s q) s:=cK #[au,D,Y,Q,.refl k,j]
def WT{u:aW}(w:dm H aB U c n)(J:dC H aB U c A ac ae n)(k:aO H ac Y D s)(g:br H.ai ae aj Y s.heap){m:Mine.M (Option V)}
  (Q:m=(ev c n u aj).G λB=>M.N (I B))(h:m D≠.ab):bu H A (M7 (I u) ae) (d2 H ac Y s (fH H) (m D)) (fX H ac Y s (m D)) s:=by
 show fs (congrFun Q D) h (λz=>w J k g z) λE q x b a r o f=>?_;show#[I E,q,x,f,r,o]
theorem wJ{u:Option V}{y:Option Int}(q:fH H Y h u v)(Q:fI u=I y):vX v y:=by
 obtain _|u:=u
 .obtain rfl:=bR Q;obtain rfl:v=.none:=q;show .none
 cases u with
 |none=>obtain rfl:=bR Q;obtain rfl:v=.none:=q;show .none
 |int i=>obtain rfl:=(od Q).2;obtain⟨r,rfl⟩:=q;show .int i r
 |_=>show db Q
def AK(T:List aq)(E y:Nat):(T.drop (min E T.length)).take (min y T.length-min E T.length)=(T.take y).drop E:=by
 rw[List.drop_take];obtain z|z:=D2 E T.length
 .let f:min E T.length=E:=D4 z;rw[f];obtain o|o:=D2 y T.length
  .let d:min y T.length=y:=D4 o;rw[d]
  .let d:min y T.length=T.length:=D5 o;rw[d,D0 (by simp),D0 (by simp;omega)]
 .let f:min E T.length=T.length:=D5 z;rw[f,ahn (bq _),ahn z];simp
theorem Ka(u:0<=lo.getD 0)(f:0<=dh.getD 0):
  (v6 xs lo dh au).toList=((match dh with|some h=>xs.toList.take h.toNat|none=>xs.toList).drop (lo.getD 0).toNat):=by
 rw[slicePick_plain];let z:lo.elim 0 (clipAt xs.size)=min (lo.getD 0).toNat xs.size:=by
  obtain _|i:=lo
  .simp
  obtain⟨Y,rfl⟩:=zr u;show clipAt_nat xs.size Y
 rw[z];let a:dh.elim xs.size (clipAt xs.size)=(match dh with|some h=>min h.toNat xs.size|none=>xs.size):=by
  obtain _|i:=dh
  .rfl
  obtain⟨Y,rfl⟩:=zr f;show clipAt_nat xs.size Y
 rw[a];generalize (lo.getD 0).toNat=E;obtain⟨T⟩:=xs;simp only[afs];obtain _|i:=dh
 .by_cases h:E<=T.length
  .rw[D4 h];show D0 (by simp)
  .rw[D5 ()];simp;omega
 simp only;generalize i.toNat=y;show AK T E y
end
variable{mA mB:ar}
section
variable{H:bk}
def Gn{q:List V}(z:hV lo dh vs=I q):0<=lo.getD 0/\0<=dh.getD 0/\q=(match dh with|some z=>vs.take z.toNat|none=>vs).drop (lo.getD 0).toNat:=by
 let z:(match(generalizing:=false) decide (0<=lo.getD 0),↥(0<=dh.getD 0) with
  |true,L=>I ((match dh with|some z=>vs.take z.toNat|none=>vs).drop (lo.getD 0).toNat)
  |_,_=>au)=I q:=z
 rcases bs: ↥(0<=lo.getD 0) with _|_
 .rw[bs] at z;cases z
 rw[bs] at z;rcases i: ↥(0<=dh.getD 0) with _|_
 .rw[i] at z;cases z
 rw[i] at z;show#[bS bs,bS i,(bR z).symm]
theorem KU{q:List V}(g:bo H.ai Y h vs xs.toList)(Q:hV lo dh vs=I q):bo H.ai Y h q (v6 xs lo dh au).toList:=by
 obtain⟨u,f,rfl⟩:=Gn Q;rw[Ka u f];show bo.drop _ ?_;obtain _|p:=dh
 .show g
 show bo.take _ g
theorem WV{y:V}(c:iL H C)(k:aO H ac Y D s)(m:aP H.ai Y s.heap y hG)(z:dx C D y=I (.list vs)):
  ∃(E:ay)(e:Array ar),hG= ⇑E/\s.heap.IsList E e/\bo H.ai Y s.heap vs e.toList:=by
 cases y with
 |ref U=>obtain⟨E,rfl,_,e,p,T,g⟩:=fR k m z;show#[E,e,j,oY T,g]
 |C p=>obtain⟨E,f,_,e,M,b⟩:=c p _ z;obtain⟨l,O,rfl⟩:=m;rw[f] at O;obtain rfl:=bR O;obtain⟨d,N,q⟩:=M;show#[E,e,j,#[d,k.dy _ _ N,q],bo.aD (cF.keeps k.dy) (x3 Y) _ _ b]
 |_=>cases z
def abj{u w:ar}(k:aO H ac Y D s):df H ac Y s Y D {s with heap:=s.heap.push {cls:=.type "slice",data:=.fields (gn [u,v,w])}}:=bB.keeps (t:=s.toks) k λy d Q=>i9 _ Q
def Dd(B J:Option (Option Int))(l:Option O):Mine.M V:=match B,J with
 |some B,I J=>match l with
  |some (.list vs)=>match aU vs.length with
   |true=>match hV B J vs with
    |some r=>(M.new (.list r)).G λn=>M.N ⇑n
    |none=>M.ab
   |false=>M.ab
  |_=>M.ab
 |_,_=>M.ab
theorem abe{d:V}{B J:Option V}(c:iL H C)(k:aO H ac Y D s)(a:aP H.ai Y s.heap d d8)(j:fH H Y s.heap B mA)(y:fH H Y s.heap J mB)
  (r:dx C D d=I (.list vs))(n:s.heap.IsSliceOf ai mA mB .none)(h:gy C d B J D≠.ab):
  bu H A (zg vJ p1 d8 ⇑ai) (fk H ac Y s (gy C d B J D)) bf s:=by
 obtain⟨o,v⟩:=Ds p1 d8 ⇑ai;let Q:gy C d B J D=Dd (fI B) (fI J) (I (.list vs)) D:=by
  cases d with
  |ref U=>show aN (λl=>Dd (fI B) (fI J) l D) r
  |C p=>show aN (λl=>Dd (fI B) (fI J) l D) r
  |_=>cases r
 generalize gy C d B J D=m at Q h|-;rcases f:fI B with _|z
 .rw[f] at Q;cases h Q
 rw[f] at Q;rcases u:fI J with _|w
 .rw[u] at Q;cases h Q
 rw[u] at Q;let l:=iu (b:=aU vs.length) (x:=match hV z w vs with|some q=>(M.new (.list q)).G λU=>M.N ⇑U|none=>M.ab) Q h;let Q:=l.2;rcases i:hV z w vs with _|q
 .rw[i] at Q;cases h Q
 rw[i] at Q;obtain⟨E,e,rfl,O,g⟩:=WV c k a r;show vU (T:="list") O.typeIs agU.lookup (wpAny_getItem_list_slice O n (wJ j f) (wJ y u) .none nofun (yC (t:=s.toks) Q k (KU g i)) (ao (ds g.length) (s3 l.1))) v
end
section
variable{H:bk}
theorem J8{y:Option Int}{d:Option Int->a3->Prop}(a:vX v y)(z:d y s):bu H A (ahP v) d bf s:=by
 cases a with
 |none=>show afV z
 |int i r=>show slicePart_int z
def N'{d:Int×Int×Nat->a3->Prop}(h:s.heap.IsSliceOf ai mA mB .none)(a:vX mA lo)(i:vX mB dh)
  (z:d ((D9 lo dh 1 n).1,1,MC (D9 lo dh 1 n).1 (D9 lo dh 1 n).2 1) s):
  bu H A (ahO ⇑ai (pure (n:Int))) d bf s:=by
 obtain⟨b,c,k,g⟩:=id h;show be (be (tt c g (x:=mA) j (be (tt c g (x:=mB) j (be (tt c g (x:=.none) j (cK ?_)))))));show be (afV ?_);show be (J8 a (be (J8 i (be (cK (cK z))))))
def xw(J:Option Int)(U:Nat):Nat:=match J with
 |some h=>min h.toNat U
 |none=>U
theorem Gb{B:Int}(z:0<=B):(if B<0 then max (B+n) 0 else min B n)=((min B.toNat n:Nat):Int):=by
 obtain⟨Y,rfl⟩:=zr z;rw[aS (rI.mpr z)];obtain z|z:=D2 Y n
 .show(Int.min_eq_left (qc.mpr z)).trans (aN rJ (D4 z)).symm
 .show(Int.min_eq_right (qc.mpr z)).trans (aN rJ (D5 z)).symm
theorem N3(u:0<=lo.getD 0)(f:0<=dh.getD 0):D9 lo dh 1 n=(((min (lo.getD 0).toNat n:Nat):Int),((xw dh n:Nat):Int)):=by
 show nE ?_ ?_
 .obtain _|B:=lo
  .show(aN rJ (Nat.zero_min n)).symm
  show Gb u
 .obtain _|B:=dh
  .rfl
  show Gb f
theorem XO(E y:Nat):MC (E:Int) (y:Int) 1=y-E:=by
 unfold MC;rw[aL (show(1:Int)>0 by decide)];by_cases z:E<y
 .rw[aL (tv.mpr z),Int.ediv_one,ahj,Int.toNat_sub]
 .rw[aS (λl=>z (tv.mp l)),Nat.sub_eq_zero_of_le (afy z)];rfl
def Tz(J:Option Int)(U:Nat):xw J U<=U:=by
 obtain _|B:=J
 .show bq U
 show Nat.min_le_right ..
theorem K8(e:Array ar)(E p:Nat):((DZ p).filterMap λ(Y:Nat)=>e[((E:Int)+(Y:Int)*1).toNat]?)=(e.toList.drop E).take p:=by
 let Q:(λ(Y:Nat)=>e[((E:Int)+(Y:Int)*1).toNat]?)=(λu=>e[u]?)∘λu=>E+u:=by
  funext Y;have:((E:Int)+(Y:Int)*1).toNat=E+Y:=by rw[Int.mul_one];rfl
  simp only[Function.comp,this]
 rw[Q,<-List.filterMap_map];show pick_run e E p
def SV{r:ay}{m:Nat}(x:IsT s.heap r xs m)(h:s.heap.IsSliceOf ai mA mB .none)(a:vX mA lo)(i:vX mB dh)(u:0<=lo.getD 0)(f:0<=dh.getD 0)
  (M:xs.size<=j9)(t:(v6 xs lo dh au).toList=xs.toList->cM ⇑r s)
  (v:∀G:Array ar,G.toList=(v6 xs lo dh au).toList->cM ⇑s.heap.objs.size {s with heap:=s.heap.push {cls:=.type "tuple",data:=.seq G}}):bu H A (M8 ⇑r ⇑ai) cM bf s:=by
 let o:IsTup s.heap r xs:= #[_,x,j,m,j];obtain⟨b,c,k,g⟩:=id h;let d:s.TypeIs ⇑ai "slice":= #[b,c,k];let l:=Ka (xs:=xs) u f;let e:(v6 xs lo dh au).toList=(xs.toList.drop (min (lo.getD 0).toNat xs.size)).take (xw dh xs.size-min (lo.getD 0).toNat xs.size):=by
  rw[l];let Q:xs.toList.length=xs.size:=by simp
  obtain _|p:=dh
  .have:=(AK xs.toList (lo.getD 0).toNat xs.toList.length).symm;rw[Mt,Nat.min_self] at this;show this
  show(AK xs.toList _ _).symm
 unfold M8
 try with_reducible show iK ?_
 show be (Ez o.typeIs () ?_);show be (Ex (name:=j6 "__getitem__") o.typeIs D8 (zA D8 o.typeIs entry_tuple_getitem ?_ (args_tuple_getitem _ _)));split cE _ _ (afY ⇑r>>=_) _ _ s;show be (tupleItemsOf_ o ?_);show be (ag' d ?_);show be (N' h a i ?_);rw[N3 u f];simp only[XO];let C:=Tz dh xs.size;generalize xw dh xs.size=y at e C|-;generalize min (lo.getD 0).toNat xs.size=E at e|-;let new:cE (gC aZ H.w) A.in1 (afX ((DZ (y-E)).filterMap λ(p:Nat)=>xs[((E:Int)+(p:Int)*1).toNat]?).toArray>>=λB=>ret B) (λdu z=>∃B,du=.done (.ret B)/\bu H A (pure B) cM bf z) bf s:=by
  show be (m:=afX _) (wpAny_newObj_type (cK #[_,j,cK (v _ ?_)]) ?_)
  .rw[K8,e]
  .split (List.filterMap _ _).toArray.size<=j9;rw[K8,afs,vP];show ao (Nat.min_le_left ..) (ao (Nat.sub_le ..) (ao C M))
 by_cases U:(((E:Int)==0&&(1:Int)==1&&(y-E)==xs.size)=L)
 .split cE _ _ (if((E:Int)==0&&(1:Int)==1&&(y-E)==xs.size)=L then _ else _) _ _ s;rw[aL U];simp only[Nm,beq_iff_eq] at U;let q:E=0:=Int.ofNat_eq_zero.mp U.1.1;let n:(v6 xs lo dh au).toList=xs.toList:=by rw[e,U.2,q,List.drop_zero];show D0 (by simp)
  show be (be (ag' o.typeIs (cK ?_)));show be (v8 (cK #[_,j,cK (t n)]))
 .split cE _ _ (if((E:Int)==0&&(1:Int)==1&&(y-E)==xs.size)=L then _ else _) _ _ s;rw[aS U];show new
theorem abf{B c:Option V}(k:aO H ac Y D s)(a:aP H.ai Y s.heap (.J vs) d8)(ag:fH H Y s.heap B mA)(y:fH H Y s.heap c mB)
  (n:s.heap.IsSliceOf ai mA mB .none)(h:gy C (.J vs) B c D≠.ab):
  bu H A (zg vJ p1 d8 ⇑ai) (fk H ac Y s (gy C (.J vs) B c D)) bf s:=by
 obtain⟨o,aa⟩:=Ds p1 d8 ⇑ai;let Q:gy C (.J vs) B c D=(match(generalizing:=false) fI B,fI c with
  |some B,I c=>match aU vs.length with
   |true=>match hV B c vs with
    |some q=>M.N (.J q)
    |none=>M.ab
   |false=>M.ab
  |_,_=>M.ab:Mine.M V) D:=j
 generalize gy C (.J vs) B c D=m at Q h|-;rcases f:fI B with _|z
 .rw[f] at Q;cases h Q
 rw[f] at Q;rcases d:fI c with _|w
 .rw[d] at Q;cases h Q
 rw[d] at Q;let l:=iu (b:=aU vs.length) (x:=match hV z w vs with|some q=>M.N (.J q)|none=>M.ab) Q h;let Q:=l.2;rcases i:hV z w vs with _|q
 .rw[i] at Q;cases h Q
 rw[i] at Q;obtain⟨E,e,p,rfl,r,g⟩:=a;obtain⟨u,U,_⟩:=Gn i;let O:=KU g i;show vU (T:="tuple") #[_,r,j] D8.lookup (SV r n (wJ ag f) (wJ y d) u U (ao (ds g.length) (s3 l.1)) (λae=>?_) λG af=>?_) aa
 .rw[ae] at O;show fq (v:=.J q) (t:=s.toks) Q k #[E,e,p,j,r,O]
 .show CZ (t:=s.toks) Q k (by rw[af];show O)
end
variable{p:Pos}
section
variable{H:bk}
theorem fH.go{u:Option V}(q:fH H Y s.heap u v)(k:aO H ac Y D s)(P:df H ac Y s a0 bM ba):fH H a0 ba.heap u v:=by
 obtain _|u:=u
 .show q
 show aP.go (show aP H.ai Y s.heap u v from q) k P
def aa9(B J:Option Int):Option O->Mine.M V
 |some (.list vs)=>match aU vs.length with
  |true=>match hV B J vs with
   |some r=>(M.new (.list r)).G λn=>M.N ⇑n
   |none=>M.ab
  |false=>M.ab
 |_=>M.ab
def aa_(x:Option O):Option (Option Int)->Option (Option Int)->Mine.M V
 |some lo,I dh=>aa9 lo dh x
 |_,_=>M.ab
def aa'{u:Option O}{a b:Option (Option Int)}(z:aa_ u a b D≠.ab):∃c,u=I (.list c):=by
 obtain _|a:=a
 .cases z j
 obtain _|b:=b
 .cases z j
 obtain _|d:=u
 .cases z j
 cases d with
  |list c=>show#[c,j]
  |_=>cases z j
theorem abh{d:V}{B c:Option V}(h:gy C d B c D≠.ab):(∃O,d=.J O)\/∃O,dx C D d=I (.list O):=by
 cases d with
 |J O=>show .inl #[O,j]
 |_=>show .inr (aa' (D:=D) (a:=fI B) (b:=fI c) (d5 #[] h))
theorem abi{d:V}{B J:Option V}(c:iL H C)(k:aO H ac Y D s)(a:aP H.ai Y s.heap d d8)(j:fH H Y s.heap B mA)(y:fH H Y s.heap J mB)
  (n:s.heap.IsSliceOf ai mA mB .none)(h:gy C d B J D≠.ab):
  bu H A (zg vJ p1 d8 ⇑ai) (fk H ac Y s (gy C d B J D)) bf s:=by
 obtain⟨O,rfl⟩|⟨O,l⟩:=abh h
 .show abf k a j y n h
 .show abe c k a j y l n h
def QG{ag:aW}{B af:Option aW}(a:rP H c.C c.gt)(am:dm H aB U c n)(N:z8 H aB U c n)(J:dC H aB U c A ac ae n)(k:aO H ac Y D s)(g:br H.ai ae aj Y s.heap)
  (Q:m=(ev c n ag aj).G λan=>(qB c n B aj).G λT=>(qB c n af aj).G λz=>gy c.C an T z)(h:m D≠.ab):
  ht H A ac Y s (eval (.Subscript ag (.Slice B af au p) pos) ae) (m D):=by
 show Subscript_ (fs (congrFun Q D) h (λz=>am J k g z) λap aq av b V r o f=>?_);let q:=g.go k r;show wpAny_Slice (k6 r f h (λz=>N J r.aK q z) λy ar aw l e j t i d=>?_);let E:=q.go r.aK t;show k6 j d h (λz=>N J t.aK E z) λx M ax ao as ah P3 al aa=>?_;show cK ?_;let O:=abj (u:=l) (v:=ao) (w:=.none) P3.aK;show hC aa (ah.trans O) (abi a.C O.aK (((o.go r.aK t).go t.aK P3).go P3.aK O) ((i.go t.aK P3).go P3.aK O) (al.go P3.aK O) (ahT _ _ _ _) (d5 aa h))
end
variable{args:List aW}{fd:FuncData}
section
variable{H:bk}
def abH{q:List aW}(z:fo (e::q)=L):fo q=L:=(dj.mp z).2
theorem q0:∀{b:List aW},fo b=L->(lg pos (j_ b ae)).any (·.1)=ak:=by
 intro q
 induction q with
 |nil=>intro _;show j
 |cons Q q w=>intro z;rw[vC (cd z).1];split (ak||(lg pos (j_ q ae)).any (·.1))=ak;rw[w (abH z)];rfl
def pj{t:ar}{b:List aW}{d:Args->a3->Prop}(v:fo b=L)(z:bu H A (ts (lg pos (j_ b ae))) (λO E=>d #[O,[]] E) bf s):
  bu H A (evalArgs t L (lg pos (j_ b ae)) []) d bf s:=by
 obtain _|⟨Q,q⟩:=b
 .show be (eb z (λO E N=>?_) λa a u=>u);show iK ?_;show be (cK (be (cK (cK N))))
 rw[vC (cd v).1] at z|-;show evalArgs_plain z
def F_{id:String}(v:fo args=L)
  (c:∀b:ar->a3->Prop,b (.builtin id) s->bu H A (eval (.Name x p) ae) b bf s)
  (z:bu H A (ts (lg pos (j_ args ae))) (λO V=>bu H A (call (.builtin id) O) cM bf V) bf s):bu H A (eval (.Call (.Name x p) args [] pos) ae) cM bf s:=
 D7 j (c _ (D_ (q0 v) (pj v z)))
def t7{T:String}(v:fo args=L)
  (c:∀b:ar->a3->Prop,b (.type T) s->bu H A (eval (.Name x p) ae) b bf s)
  (z:bu H A (ts (lg pos (j_ args ae))) (λO V=>bu H A (call (.type T) O) cM bf V) bf s):bu H A (eval (.Call (.Name x p) args [] pos) ae) cM bf s:=
 D7 j (c _ (ahD (q0 v) (pj v z)))
def Pg(v:fo args=L)
  (c:∀b:ar->a3->Prop,b ⇑a s->bu H A (eval (.Name x p) ae) b bf s)
  (z:bu H A (ts (lg pos (j_ args ae))) (λO V=>(V.heap.get? a=I o/\o.data=.func fd)/\bu H A (call ⇑a O) cM bf V) bf s):bu H A (eval (.Call (.Name x p) args [] pos) ae) cM bf s:=
 D7 j (c _ (af0 (pj v (by simpa using z))))
end
variable{K:Frag}{cz:Int}
structure tM(K:Frag):Prop where
 ga:∀c,v2 K ⇑(fx c) "__getattribute__"=I (I (.builtin "object.__getattribute__"))
 S7:∀c,v2 K ⇑(fx c) "__getattr__"=I au
 aan:∀c,v2 K ⇑(fx c) "__setattr__"=I (I (.builtin "object.__setattr__"))
 plain:∀c,plainOver K (fx c)=L
 dict:∀c,hasDictIn K (fx c)=L
 attr:∀c a,a∈pn->v2 K ⇑(fx c) a=I au
def IA{T:List Str}:m9 x (y::T)=(match b_ x y with|true=>L|false=>m9 x T):=j
theorem T6:∀{T:List Str},m9 x T=L->x∈T:=by
 intro q
 induction q with
 |nil=>show nofun
 |cons e q w=>
  intro z;rw[IA] at z;rcases l:b_ x e with _|_
  .rw[l] at z;show mI _ (w z)
  rw[gx.mp l];show ti ..
section
variable{H:bk}
theorem isStr_of(z:o2 x v=L):v.isStr y= ↥(x=y):=by
 obtain⟨r,rfl⟩:=agm z;rw[MT];by_cases Q:x=y
 .subst Q;simp
 .rw[f8 Q];show beq_eq_false_iff_ne.mpr Q
def IB{Q:ea}(z:o2 x Q.key=L):Q.refKey=ak:=by obtain⟨r,l⟩:=agm z;simp[af2,l]
theorem Xk{E:Str}:∀{b:List ea}{n:List (Str×ar)},vZ (gq aZ w) b n->
  (match b.find? (·.key.isStr E) with|some e=>I (I e.val)|none=>if b.any (·.refKey) then au else I au)=I (lh n E):=by
 let d:∀{b:List ea}{n:List (Str×ar)},vZ (gq aZ w) b n->(b.find? (·.key.isStr E)).map (·.val)=lh n E/\b.any (·.refKey)=ak:=by
  intro b n z
  induction z with
  |nil=>show#[j,j]
  | @cons e g b n f o M h=>
   obtain⟨p,a⟩:=g;let c:o2 p e.key=L:=f;constructor
   .rw[DO,ahq,isStr_of c];by_cases l:p=E
    .rw[cW l,aL l];show aN I o
    .rw[f8 l,aS l];show h.1
   .rw[tw,IB c,h.2];rfl
 intro b n z;obtain⟨f,o⟩:=d z;cases l:b.find? (·.key.isStr E) with
 |none=>split (if b.any (·.refKey) then au else I au)=_;rw[l] at f;rw[o];show aN I f
 |some e=>rw[l] at f;rw[<-f];rfl
def GB{y:ay}(E:Str)(u:h.DictOf (gq aZ w) y kvs):∃p,h.get? y=I p/\lookIn E p=I (lh kvs E):=by obtain⟨d,b,D,N,T,G,O,t,v⟩:=u;show#[d,N,?_];unfold lookIn;rw[G];show Xk t
theorem BC{g x:Nat}{b:List (Str×V)}(k:aO H ac Y D s)(q:aP H.ai Y s.heap ⇑n v)(f:D[n]?=I (.inst g x))(o:D[x]?=I (.aX b)):
  ∃u y a,v= ⇑u/\Y[x]?=I y/\s.heap.get? u=I (o4 (fx g) y)/\s.heap.DictOf (gq aZ H.w) y a/\e7 H.ai Y s.heap b a:=by
 obtain⟨u,rfl,_,y,C,T⟩:=fR k q f;obtain⟨B,p,a,M,c,_⟩:=k.sim.rep x _ o;rw[C] at p;obtain rfl:=bR p;show#[u,y,a,j,C,T,M,c]
theorem handed{B:V}{a:ar}(q:aP H.ai Y h B a):handedIn a=L:=by
 cases B with
 |none=>subst q;rfl
 |bool _=>subst q;rfl
 |int _=>obtain⟨_,rfl⟩:=q;rfl
 |str _=>obtain⟨_,rfl⟩:=q;rfl
 |J _=>obtain⟨_,_,_,rfl,_⟩:=q;rfl
 |ref _=>obtain⟨_,_,rfl⟩:=q;rfl
 |C _=>obtain⟨_,_,rfl⟩:=q;rfl
inductive z0{aq:Type}(F:Nat->List (Str×V)->Mine.M aq)(o:V)(a:Str)(D:aG)(r:bA aq):Prop
 |mk (n c d:Nat) (es:List (Str×V)) (g:o= ⇑n) (bs:D[n]?=I (.inst c d)) (eJ:D[d]?=I (.aX es)) (q:a∈pn) (e:r=F d es D):z0 F o a D r
def Ir{c:Type}(n:Nat->List (Str×V)->Mine.M c)(x:Nat):Option O->Mine.M c
 |some (.aX es)=>n x es
 |_=>M.ab
def It{c:Type}(n:Nat->List (Str×V)->Mine.M c)(p:aG):Option O->Mine.M c
 |some (.inst _ x)=>Ir n x p[x]?
 |_=>M.ab
def TO{c:Type}(a:Nat->List (Str×V)->Mine.M c)(p:aG)(b:Bool)(o:V):Mine.M c:=match b,o with
 |true,⇑n=>It a p p[n]?
 |_,_=>M.ab
theorem Iu{F:Nat->List (Str×V)->Mine.M aq}{o:V}{a:Str}(Q:r=TO F D (m9 a pn) o D)(h:r≠.ab):z0 F o a D r:=by
 rcases l:m9 a pn with _|_
 .rw[l] at Q;cases h Q
 rw[l] at Q;cases o with
 |ref U=>
  let Q:r=It F D D[U]? D:=Q;rcases bs:D[U]? with _|z
  .rw[bs] at Q;cases h Q
  rw[bs] at Q;cases z with
  |inst g x=>
   let Q:r=Ir F x D[x]? D:=Q;rcases i:D[x]? with _|c
   .rw[i] at Q;cases h Q
   rw[i] at Q;cases c with
   |aX b=>show#[U,g,x,b,j,bs,i,T6 l,Q]
   |_=>cases h Q
  |_=>cases h Q
 |_=>cases h Q
theorem Oj{d:V}{E:Str}{ex:Bool}(J:K.In H.base)(m:tM K)(k:aO H ac Y D s)(v:aP H.ai Y s.heap d d8)(h:mY C d E D≠.ab):
  bu H A (getAttr d8 E ex) (fk H ac Y s (mY C d E D)) bf s:=by
 generalize u:mY C d E D=q at h|-;obtain⟨U,g,z,b,rfl,bs,i,l,Q⟩:=Iu (o:=d) (a:=E) (D:=D) (F:=λ_ b=>M.opt (aT E b)) (u.symm.trans #[]) h;rcases e:aT E b with _|B
 .rw[e] at Q;cases h Q
 rw[e] at Q;obtain⟨w,r,n,rfl,O,T,G,x⟩:=BC k v bs i;obtain⟨p,t,c⟩:=GB E G;let q:=yA E x;rw[e] at q;obtain⟨aa,f,y⟩:=q;rw[f] at c;let N:InstAt s.heap w (o4 (fx g) r) (fx g) (I p):= #[T,j,j,t];let hR:K.In s.heap:=J.keeps k.dy;show get_value hR N (m.ga g) (findObj_own (m.dict g) (m.attr g E l) j c) (handed y) (fq Q k y)
theorem Xm{E:Str}{a:ar}:∀{b:List ea}{n:List (Str×ar)},vZ (gq aZ w) b n->(n.map (·.1)).Nodup->
  vZ (gq aZ w) (putL E (zx w E) (.str E t) a b) (hq n E a):=by
 intro b n z
 induction z with
 |nil=>intro _;show .cons (by simp[gq,o2]) j .nil
 | @cons Q g b n f o M e=>
  obtain⟨p,B⟩:=g;intro d;simp only[th,j0] at d;let c:o2 p Q.key=L:=f;rw[putL,isStr_of c];by_cases l:p=E
  .subst l;rw[Dl _ _ _ _ d.1];simp only[decide_true,if_true];show .cons f j M
  .rw[Dm _ _ _ _ _ l];simp only[f8 l,Mu,if_false];show .cons f o (e d.2)
theorem Yd{E:Str}{p:ar}{Q:ea}:∀{b:List ea},Q∈putL E cz p v b->(Q.hash=cz/\Q.key=p)\/∃J∈b,Q.hash=J.hash/\Q.key=J.key:=by
 intro q
 induction q with
 |nil=>intro z;rw[putL,fC] at z;subst z;show .inl #[j,j]
 |cons u q w=>
  intro z;rw[putL] at z;split at z
  .obtain rfl|z:=gm.mp z
   .show .inr #[u,ti ..,j,j]
   .show .inr #[Q,mI _ z,j,j]
  .obtain rfl|z:=gm.mp z
   .show .inr #[Q,ti ..,j,j]
   .obtain l|⟨J,f,o⟩:=w z
    .show .inl l
    .show .inr #[J,mI _ f,o]
set_option tactic.hygienic true in
theorem GC{y:ay}{E:Str}{a:ar}(u:h.DictOf (gq aZ w) y kvs)
  (Q:∀d,h.get? y=I d->aI.get? y=I (gA E (zx w E) (.str E t) a d)):aI.DictOf (gq aZ w) y (hq kvs E a):=by
 obtain⟨d,b,D,N,T,G,z,A,v⟩:=u;let J:=Q d N;have:d=dictOf b.toList D:=by obtain⟨B,x,c,n⟩:=d;obtain⟨f,o,M⟩:=T;subst f o M G;rfl
 subst this;rw[putName_dict] at J;show#[_,_,_,J,#[j,j,j],j,λs i=>?_,?_,?_]
 .rw[List.mem_toArray] at i;obtain⟨f,o⟩|⟨q,f,o,M⟩:=Yd i
  .show#[E,by rw[o];simp[gq,o2],f]
  .obtain⟨p,r,O⟩:=z q (zq.mp f);show#[p,by rw[M];show r,by rw[o];show O]
 .show Xm A v
 .unfold hq;split
  .rw[agL];show v
  .rename_i k;rw[Mr,y9];show#[v,by simp,λp l e m=>?_];simp only[th,afl,fC] at m;subst m;rintro rfl;obtain⟨g,f,o⟩:=tj.mp l;show k (wa.mpr #[g,f,by simp[o]])
end
variable{d:Option ay}{AW:Nat}
section
variable{H:bk}
theorem Xl{a:Str}:∀{b:List ea}{n:List (Str×ar)},vZ (gq aZ w) b n->b.any (·.refKey)=ak:=by
 intro b n z
 induction z with
 |nil=>rfl
 | @cons Q g b n f o M c=>rw[tw,IB (show o2 g.1 Q.key=L from f),c];rfl
def yp(g:ar)(x:Option ay)(s:Array (Option ar))(U:Nat):List ea×Bool->Obj
 |(c,ak)=> #[g,x,.dict c.toArray U,s]
 |(c,L)=> #[g,x,.dict c.toArray (U+1),s]
theorem Yh{g:ar}{D:Array (Option ar)}(v:List ea×Bool):(yp g d D n v).isFreed=ak:=by obtain⟨b,_|_⟩:=v<;>rfl
theorem vn{b:Array ea}{E:Str}{p a:ar}(z:o.data=.dict b AW):(gA E cz p a o).isFreed=ak:=by obtain⟨C,t,c,n⟩:=o;subst z;show Yh _
theorem Kr{y:ay}{E:Str}{p a:ar}(G:h.DictOf (gq aZ H.w) y kvs)(d:Obj)(N:h.get? y=I d):(h.update y (gA E cz p a)).get? y=I (gA E cz p a d):=by obtain⟨B,b,D,V,f,l,_⟩:=G;obtain rfl:=bR (N.symm.trans V);show qa _ N (vn l)
theorem abI{u y c:Nat}{a:Str}{Y:ar}{d:Unit->a3->Prop}(hR:K.In s.heap)(m:tM K)(T:s.heap.get? u=I (o4 (fx c) y))(G:s.heap.DictOf (gq aZ H.w) y kvs)
  (aa:a∈pn)(Q:kvs.length<=900)
  (ac:∀V,d bL {s with heap:=s.heap.update y (gA a (zx H.w a) (.str a V) Y),toks:=s.toks+2}):bu H A (setAttr ⇑u a Y) d bf s:=by
 let k:∀V,(s.heap.update y (gA a (zx H.w a) (.str a V) Y)).DictOf (gq aZ H.w) y (hq kvs a Y):=λV=>GC (t:=V) G (Kr G);obtain⟨p,b,D,h,ah,l,O,ab,v⟩:=id G;let N:InstAt s.heap u (o4 (fx c) y) (fx c) (I p):= #[T,j,j,h];obtain⟨i,U,g⟩:=any_some (m.dict c);show set_plain hR N (m.aan c) (osa_open (s:={s with toks:=s.toks+1}) hR N (m.plain c) (r:=au) (by unfold takerIn;rw[m.attr c a aa];rfl) λB=>?_);show be (cK (be (be (Nf T (be (Looks.here (s:={s with toks:=s.toks+1}) (looks_clsIn hR U) ?_))))));rw[g];show cK (a:=I y) (be (cK (be ?_)));show be (be (agX (cK (be (ag2 (be (Nf h ?_)))))));rw[l];dsimp only;let C:(!b.any (·.key.isStr a)&&b.any (·.refKey))=ak:=by have:=Xl (a:=a) ab;rw[Array.any_toList] at this;rw[this,y8]
 rw[agz,C];show ahb h ?_;let x:=k (s.toks+1);obtain⟨z,af,ae,f,ag,J,M,q,e⟩:=id x;let E:=q.length;let n:=stored_length_le kvs a Y;show be (wpAny_lookBehind (o:=z) f (by rw[J];show pastItsLine_dict (ao (ds E) (ao n (ao (hJ Q) ())))) ?_);show cK (ac (s.toks+1))
def aaK(a:Str)(B:V)(x:Nat)(es:List (Str×V)):Mine.M Unit:=match b' es.length 900 with
 |true=>M.put x (.aX (put a B es))
 |false=>M.ab
def aaI{d B:V}{E:Str}{q:bA Unit}(u:oF d E B D=q)(h:q≠.ab):z0 (aaK E B) d E D q:=Iu (o:=d) (a:=E) (D:=D) (u.symm.trans #[]) h
theorem aaJ{d B:V}{a:ar}{E:Str}(J:K.In H.base)(m:tM K)(k:aO H ac Y D s)(af:aP H.ai Y s.heap d d8)(ag:aP H.ai Y s.heap B a)(h:oF d E B D≠.ab):
  bu H A (setAttr d8 E a) (d2 H ac Y s rU (oF d E B D)) bf s:=by
 generalize u:oF d E B D=q at h|-;obtain⟨U,g,O,o,rfl,bs,i,l,Q⟩:=aaI u h;let e:=iu (b:=b' o.length 900) (x:=M.put O (.aX (put E B o))) Q h;let Q:=e.2;let e:=cc e.1;obtain⟨an,y,n,rfl,C,T,G,N⟩:=BC k af bs i;obtain⟨p,ah,aj,aa,f,al,am,z,ae⟩:=id G;show abI (c:=g) (J.keeps k.dy) m T G l (ao (ds (yz N)) e) λr=>?_;let v:j5 y s.heap (s.heap.update y (gA E (zx H.w E) (.str E r) a)):=p' ..;let bn:=l6 v aa (by rw[f.1];simp);show#[bL,_,Y,Q,bB.set k C i j #[_,GC (t:=r) G (Kr G),KS E (aP.aD bn (cL.refl _) _ _ ag) (e7.aD bn (cL.refl _) _ _ N) ae,λl=>cH l Kq] (jB v),trivial]
end
variable{name:Str}{rZ:Pos}
def uk(l:Str):Option ay:=(aT l eG).map (·.addr)
structure bC(H:bk)(C:List O)(b:List (Str×V))(K:Frag):Prop where
 gl:rP H C b
 sB:K.In H.base
 nc:tM K
 Jx:∀k m q,nj k m pM=I q->∃f,uk q=I f/\v2 K ⇑(fx k) m=I (I ⇑f)/\typeIn K ⇑f=I (.type "function")
 init:∀k,∃f,uk (xA k)=I f/\v2 K ⇑(fx k) "__init__"=I (I ⇑f)/\typeIn K ⇑f=I (.type "function")/\makesIn K (fx k)=L
 cls:∀x k,wS x=I k->H.qW x=I ⇑(fx k)
 fn:∀x r,aT x eG=I r->vl x=L->H.qW x=I ⇑r.addr
 keep:∀k,keepIn K ⇑(fx k)=L
 A6:∀x r,aT x eG=I r->∃o fd,H.base.get? r.addr=I o/\o.data=.func fd
 np:∀x∈(["len","tuple","list","str","isinstance","range","ValueError"]:List Str),H.qW x=au
 F3:H.or "len"=I (.builtin "len")
 F1:H.or "isinstance"=I (.builtin "isinstance")
 Az:H.or "tuple"=I (.type "tuple")
 F4:H.or "list"=I (.type "list")
 F8:H.or "str"=I (.type "str")
 F7:H.or "range"=I (.type "range")
 AA:H.or "ValueError"=I (.type "ValueError")
def ql(T:bk)(t a:Nat)(G:Bool)(ag:Str->List V->Mine.M V):Prop:=∀A ac Y s D q f vs n,uk q=I f->A.frames=I ac->(G=ak->A.handled=au)->A.depth<=t+1->A.units<=a+4->a+60<kB->
 aO T ac Y D s->bo T.ai Y s.heap vs n->ag q vs D≠.ab->
 tr (gC aZ T.w) A (.call ⇑f #[n,[]]) (λr E=>match r with|.ok (.ret v)=>fk T ac Y s (ag q vs D) v E|.ok _=>False|.error e=>fX T ac Y s (ag q vs D) e E) s
section
variable{H:bk}
theorem FY{d:aW}{E:Str}{A:Sem ar}(z:pT d=L):M2 d E ae A=A:=by
 cases d with
 |Call t G H v=>
  obtain _|_:=G
  .obtain _|_:=H
   .show cY z
   .cases t<;>rfl
  .cases t<;>rfl
 |_=>rfl
def Qu{B:aW}{E:Str}(bC:bC H c.C c.gt K)(w:dm H aB U c n)(J:dC H aB U c A ac ae n)(k:aO H ac Y D s)(g:br H.ai ae aj Y s.heap)(t:pT B=L)
  (Q:m=(ev c n B aj).G λd=>mY c.C d E)(h:m D≠.ab):ht H A ac Y s (eval (.Attribute B E pos) ae) (m D):=by
 show Attribute_any_ (fs (congrFun Q D) h (λz=>w J k g z) λE a x b V r o f=>?_) ?_
 .show hC f r (Oj bC.sB bC.nc r.aK o (d5 f h))
 .split (do
   let d<-M2 B E ae (eval B ae)
   v7 pos.atName
   let q<-M9 [d] (getAttr d E L)
   letTemporaryGo B d q
   pure q)=_
  rw[FY t]
theorem V_{d:aW}(C:pT d=L)(v:fo args=L)(c:ye rZ pos args=L)
  (z:bu H A (eval d ae) (λQ V=>∀a,bu H A (getMethod Q name a) (λn e=>bu H A (callWith pos n.1 n.2 (lg pos (j_ args ae)) []) cM bf e) bf V) bf s):
  bu H A (eval (.Call (.Attribute d name rZ) args [] pos) ae) cM bf s:=by
 obtain⟨g,E⟩:=dj.mp c;let b:agN (args.length+0) (lg pos (j_ args ae)) []=L:=by
  unfold agN;let f:(lg pos (j_ args ae)).all (!·.1)=L:=by have:=q0 (ae:=ae) (pos:=pos) v;rw[List.all_eq_not_any_not];simp only[Bool.not_not,this,Bool.not_false]
  let o:args.length<30:=cc E;rw[f];simp[o]
 let h:agO L d ae rZ pos=pure pos:=by
  unfold agO;have:(!L||rZ.endLine==pos.line)=L:=by have:=rA g;simp[this]
  rw[aL this]
 show MethodCall_ (pl:=do return(<-importBound d ae).getD L) (eb z (λQ V f=>f _) λi i u=>u) ?_;split (M2 d name ae (eval d ae)>>=λQ=>v7 rZ.atName>>=λi=>methodCall d name rZ pos ae Q (args.length+0) (lg pos (j_ args ae)) [])=_;rw[FY C];unfold methodCall;rw[b,h];rfl
end
variable{fS:List ar}{c4:List V}
section
variable{H:bk}
inductive rT(C:List O)(D:aG)(o:V)(m:Str):hN->Prop
 |app {n:Nat} {vs:List V}:m="append"->o= ⇑n->D[n]?=I (.list vs)->rT C D o m .app
 |ext {n:Nat} {vs:List V}:m="extend"->o= ⇑n->D[n]?=I (.list vs)->rT C D o m .ext
 |get {b0:O}:m="get"->dx C D o=I b0->ip b0=.type "dict"->rT C D o m .get
 |lP {n k d:Nat} {es:List (Str×V)} {q:Str}:o= ⇑n->D[n]?=I (.inst k d)->D[d]?=I (.aX es)->aT m es=au->nj k m pM=I q->rT C D o m (.lP q)
inductive Fi(C:List O)(D:aG)(o:V)(m:Str)(r:bA hN):Prop
 |mk (k:hN) (e:r=.ok k D) (p:rT C D o m k):Fi C D o m r
def mW(C:List O)(p:aG)(o:V)(m:Str)(q:bA hN):Prop:=q≠.ab->Fi C p o m q
section
variable{o:V}{m:Str}
theorem JU{p:hN}(z:∀n O,o= ⇑n->D[n]?=I (.list O)->rT C D o m p):mW C D o m ((match(generalizing:=false) o with
  | ⇑n=>match D[n]? with
   |some (.list _)=>M.N p
   |_=>M.ab
  |_=>M.ab:Mine.M hN) D):=by
 cases o with
 |ref n=>
  let y:∀u,D[n]?=u->mW C D ⇑n m ((match u with|some (.list _)=>M.N p|_=>M.ab:Mine.M hN) D):=λu T=>by
   obtain _|u:=u
   .show cT
   .cases u with
    |list O=>show λa=> #[p,j,z n O j T]
    |_=>show cT
  show y _ j
 |_=>show cT
def WI(i:m="get"):mW C D o m ((match dx C D o with
  |some (.aX _)=>M.N .get
  |some (.id _)=>M.N .get
  |some (.ef _)=>M.N .get
  |_=>M.ab:Mine.M hN) D):=by
 let y:∀u,dx C D o=u->mW C D o m ((match u with
  |some (.aX _)=>M.N .get
  |some (.id _)=>M.N .get
  |some (.ef _)=>M.N .get
  |_=>M.ab:Mine.M hN) D):=λu T=>by
  obtain _|u:=u
  .show cT
  .cases u with
   |list O=>show cT
   |inst p x=>show cT
   |_=>show λa=> #[.get,j,.get i T j]
 show y _ j
theorem WJ:mW C D o m ((match o with
  | ⇑n=>match D[n]? with
   |some (.inst k d)=>match D[d]?,nj k m pM with
    |some (.aX es),I q=>match(aT m es).isNone with
     |true=>M.N (.lP q)
     |false=>M.ab
    |_,_=>M.ab
   |_=>M.ab
  |_=>M.ab:Mine.M hN) D):=by
 cases o with
 |ref n=>
  let y:∀u,D[n]?=u->mW C D ⇑n m ((match u with
   |some (.inst k d)=>match D[d]?,nj k m pM with
    |some (.aX es),I q=>match(aT m es).isNone with
     |true=>M.N (.lP q)
     |false=>M.ab
    |_,_=>M.ab
   |_=>M.ab:Mine.M hN) D):=λu T=>by
   obtain _|u:=u
   .show cT
   .cases u with
    |inst k d=>
     let B:∀e c,D[d]?=e->nj k m pM=c->mW C D ⇑n m ((match e,c with
      |some (.aX es),I q=>match(aT m es).isNone with
       |true=>M.N (.lP q)
       |false=>M.ab
      |_,_=>M.ab:Mine.M hN) D):=λe c g Q=>by
      obtain _|e:=e
      .show cT
      .cases e with
       |aX es=>
        obtain _|q:=c
        .show cT
        .let b:∀a,aT m es=a->mW C D ⇑n m ((match a.isNone with|true=>M.N (.lP q)|false=>M.ab:Mine.M hN) D):=λa f=>by
          obtain _|a:=a
          .show λh=> #[.lP q,j,.lP j T g f Q]
          .show cT
         show b _ j
       |_=>show cT
     show B _ _ j j
    |_=>show cT
  show y _ j
 |_=>show cT
def X5:mW C D o m (e' C o m D):=by
 let y:∀a z g,b_ m "append"=a->b_ m "extend"=z->b_ m "get"=g->mW C D o m ((match a with
  |true=>match o with
   | ⇑U=>match D[U]? with
    |some (.list _)=>M.N .app
    |_=>M.ab
   |_=>M.ab
  |false=>match z with
   |true=>match o with
    | ⇑U=>match D[U]? with
     |some (.list _)=>M.N .ext
     |_=>M.ab
    |_=>M.ab
   |false=>match g with
    |true=>match dx C D o with
     |some (.aX _)=>M.N .get
     |some (.id _)=>M.N .get
     |some (.ef _)=>M.N .get
     |_=>M.ab
    |false=>match o with
     | ⇑U=>match D[U]? with
      |some (.inst p x)=>match D[x]?,nj p m pM with
       |some (.aX b),I l=>match(aT m b).isNone with
        |true=>M.N (.lP l)
        |false=>M.ab
       |_,_=>M.ab
      |_=>M.ab
     |_=>M.ab:Mine.M hN) D):=λa z g f c d=>by
  obtain _|_:=a
  .obtain _|_:=z
   .obtain _|_:=g
    .show WJ
    show WI (gx.mp d)
   show JU λU O=>.ext (gx.mp c)
  show JU λU O=>.app (gx.mp f)
 show y _ _ _ j j j
end
inductive zP(h:bj)(a:ay):Prop
 |mk (o:Obj) (N:h.get? a=I o) (U:o.cls=.type "dict") (G:o.dict=au):zP h a
def JO{P:Prop}(z:ip (.list vs)=.type "dict"):P:=cH (agp (show Value.type "list"=.type "dict" from z)) ()
def WG{x:Nat}{P:Prop}(z:ip (.inst k x)=.type "dict"):P:=nomatch (show ago (fx k)=.type "dict" from z)
theorem KX(q:fW H.w H.ai Y h b0 a)(U:ip b0=.type "dict"):zP h a:=by
 cases b0 with
 |aX b=>obtain⟨n,⟨d,_,_,N,T,_⟩,_⟩:=q;show#[d,N,T.1,T.2.1]
 |id b=>obtain⟨n,⟨d,_,N,T,_⟩,_⟩:=q;show#[d,N,T.1,T.2.1]
 |ef b=>obtain⟨d,_,_,N,T,_⟩:=q;show#[d,N,T.1,T.2.1]
 |list O=>show JO U
 |inst p x=>show WG U
theorem WU{y:V}(b:gT H)(c:iL H C)(k:aO H ac Y D s)(m:aP H.ai Y s.heap y hG)(z:dx C D y=I b0)(U:ip b0=.type "dict"):
  ∃E,hG= ⇑E/\zP s.heap E:=by
 cases y with
 |ref e=>obtain⟨E,Q,f,q⟩:=fR k m z;show#[E,Q,KX q U]
 |C p=>
  obtain⟨E,f,o,M⟩:=c p _ z;obtain⟨l,O,Q⟩:=m;let q:fW H.w H.ai [] H.base b0 E:=by
   cases b0 with
   |list g=>show JO U
   |_=>show M
  obtain⟨d,N,a,G⟩:=KX q U;show#[E,(bR (f.symm.trans O)).symm▸Q,#[d,k.dy _ _ N,a,G]]
 |_=>show db z
theorem J3{B:V}(Q:vs=[B])(q:bo H.ai Y h vs fS):∃a,fS=[a]/\aP H.ai Y h B a:=by subst Q;obtain⟨a,g,Q,f,o⟩:=q;let o:g=[]:=o;show#[a,o▸Q,f]
theorem acB{B A:V}(q:bo H.ai Y h [B,A] fS):∃a u,fS=[a,u]/\aP H.ai Y h B a/\aP H.ai Y h A u:=by obtain⟨a,g,rfl,f,o⟩:=q;obtain⟨u,rfl,M⟩:=J3 j o;show#[a,u,j,f,M]
def zT(T:bk)(C:List O):Prop:=∀(ac:List Env)(Y:List ay)(s:a3)(D:aG)(A:iH)(bf:ar->a3->Prop)(o k e:V)(d8 lQ hn:ar),A.units+60<kB->aO T ac Y D s->aP T.ai Y s.heap o d8->aP T.ai Y s.heap k lQ->aP T.ai Y s.heap e hn->kT C o k e D≠.ab->
  bu T A (call (.builtin "dict.get") [d8,lQ,hn]) (fk T ac Y s (kT C o k e D)) bf s
def W2(t:List V->bA aq)(h:t c4≠.ab)(u:t []=.ab)(o:∀E y T,t (E::y::T)=.ab):∃B,c4=[B]:=by
 obtain _|⟨B,r⟩:=c4
 .cases h u
 obtain _|⟨E,T⟩:=r
 .show#[B,j]
 cases h (o B E T)
def acD(t:List V->bA aq)(h:t c4≠.ab)(u:t []=.ab)(f:∀E,t [E]=.ab)(o:∀E y g T,t (E::y::g::T)=.ab):∃B A,c4=[B,A]:=by
 obtain _|⟨B,r⟩:=c4
 .cases h u
 obtain _|⟨A,r⟩:=r
 .cases h (f B)
 obtain _|⟨E,T⟩:=r
 .show#[B,A,j]
 cases h (o B A E T)
inductive EF(ai:ay)(Y:List ay)(h:bj)(c4:List V)(fS:List ar):Prop
 |mk (v:V) (u:ar) (e:c4=[v]) (J:fS=[u]) (r:aP ai Y h v u):EF ai Y h c4 fS
theorem r2{m:bA aq}(t:List V->bA aq)(Q:m=t c4)(b:m≠.ab)(u:t []=.ab)(o:∀E y T,t (E::y::T)=.ab)(q:bo H.ai Y h c4 fS):EF H.ai Y h c4 fS:=by obtain⟨B,rfl⟩:=W2 t (d5 Q b) u o;obtain⟨a,rfl,c⟩:=J3 j q;show#[B,a,j,j,c]
theorem QD{o:aW}{a:Str}{ax aH:Pos}{an:List aW}(bC:bC H c.C c.gt K)(cN:zT H c.C)(a4:dm H aB U c n)(p:qm H aB U c n)(a7:ql H aB U c.aM c.ag)(J:dC H aB U c A ac ae n)(k:aO H ac Y D s)(aw:br H.ai ae aj Y s.heap)
  (aT:pT o=L)(v:fo an=L)(a0:ye ax aH an=L){m:Mine.M V}
  (Q:m=(ev c n o aj).G λav=>(e' c.C av a).G λaF=>(jD c n an aj).G λO=>k1 c av aF O)(h:m D≠.ab):
  ht H A ac Y s (eval (.Call (.Attribute o a ax) an [] aH) ae) (m D):=by
 show V_ aT v a0 (fs (congrFun Q D) h (λz=>a4 J k aw z) λav bg bj bh a9 r af f=>λbf=>?_);obtain⟨aF,aC,mu⟩:=X5 (C:=c.C) (jA (d5 f h));let ap:=f.trans (he aC);clear f aC;let q:=aw.go k r
 induction mu with
 | @app aI O am N al=>subst am N;obtain⟨E,rfl,a1,a_,a6,T,g⟩:=fR r.aK af al;show afU MJ PySem.F.type_list_append (oY T) #[_,T,j] (D_ (q0 v) (pj v ?_));show k6 r ap h (λz=>p J r.aK q z) λaa ah ar aq e P t i d=>?_;obtain⟨B,aL,rfl,rfl,y⟩:=r2 (λaa=>k1 c _ .app aa ah) d h j (λ_ _ _=>j) i;show hC d P (N_ t.aK (af.go r.aK t) y (jA (d5 d h)))
 | @ext aI O am N al=>subst am N;obtain⟨E,rfl,a1,a_,a6,T,g⟩:=fR r.aK af al;show afU af9 PySem.F.type_list_extend (oY T) #[_,T,j] (D_ (q0 v) (pj v ?_));show k6 r ap h (λz=>p J r.aK q z) λaa ah ar aq e P t i d=>?_;obtain⟨B,aL,rfl,rfl,y⟩:=r2 (λaa=>k1 c _ .ext aa ah) d h j (λ_ _ _=>j) i;show hC d P (Rh t.aK (af.go r.aK t) y (jA (d5 d h)))
 | @get bd am N aU=>subst am;obtain⟨E,Q,be,aE,aV,as⟩:=WU bC.gl.base bC.gl.C r.aK af N aU;subst Q;show getMethod_builtin #[_,aE,aV] PySem.F.plainAttrs_dict Ea PySem.F.type_dict_get (λay b=>by injections b;show#[_,aE,as]) (D_ (q0 v) (pj v ?_));show k6 r ap h (λz=>p J r.aK q z) λaa ah ar aq e P t i d=>?_;obtain⟨B,bi,rfl⟩:=acD (λaa=>k1 c _ .get aa ah) (d5 d h) j (λ_=>j) λ_ _ _ _=>j;obtain⟨aL,aN,rfl,y,g⟩:=acB (show bo H.ai ar e.heap _ aq from i);show hC d P (cN _ _ _ _ _ _ _ _ _ _ _ _ J.u t.aK (af.go r.aK t) y g (d5 d h))
 | @lP aI dH a' ba l N al eT aR aS=>subst N;obtain⟨aN,ay,a5,rfl,bc,T,as,x⟩:=BC r.aK af al eT;obtain⟨aG,a2,aD⟩:=GB a as;let aJ:=yA a x;rw[aR] at aJ;rw[show lh a5 a=au from aJ] at aD;obtain⟨bb,az,aX,w⟩:=bC.Jx dH a l aS;let aP:InstAt a9.heap aN (o4 (fx dH) ay) (fx dH) (I aG):= #[T,j,j,a2];show method_fn (bC.sB.keeps r.aK.dy) aP (bC.nc.ga dH) (bC.nc.S7 dH) aX w (by split (lookIn a aG).map _=_;rw[aD];rfl) ?_;obtain⟨a8,a3,aY⟩:=zf.mp az;obtain⟨aQ,fd,aA,aZ⟩:=bC.A6 l a8 a3;rw[aY] at aA;show af0 (o:=aQ) (fd:=fd) (pj v ?_);show k6 r ap h (λz=>p J r.aK q z) λaa ah ar aq e P t i d=>?_;show#[#[t.aK.dy _ _ aA,aZ],l_ d P (Ew (a7 _ _ _ _ _ _ _ _ _ az J.frames J.handled (lW J.depth) (ao (ao (bv ..) J.units) (bv ..)) J.line t.aK #[_,_,j,af.go r.aK t,i] (d5 d h)))]
end
section
variable{H:bk}
theorem bB.Wq{d:O}(k:aO H ac Y D s)(v:s.heap.get? a=au)(p:∀y d,s.heap.get? y=I d->aI.get? y=I d)(q:fW H.w H.ai (Y++[a]) aI d a):
  df H ac Y s (Y++[a]) (D++[d]) {s with heap:=aI,toks:=t}:=by
 let C:H.base.get? a=au:=by
  rcases l:H.base.get? a with _|d
  .rfl
  rw[k.dy _ _ l] at v;cases v
 let E:=k.keeps p;show#[#[k.sim.new C v p q,E.dy,E.fm,λy C l=>?_,E.hY],d1.new v p,trivial,j,j];obtain l|l:=d9.mp l
 .show k.apart y C l
 .rw[fC.mp l] at C;obtain⟨_,d,Q,_⟩:=k.fm.mem C;rw[v] at Q;cases Q
def GA{h:Type}[DecidableEq h]{a:MM aZ H.w h}(z:bj):(z.push j7).DictAt a z.objs.size [] 0:= #[_,(gn []),nG _ j,#[j,j,j],j,λb V=>by simp at V,agg,rz]
theorem oI(z:bj):z.get? z.objs.size=au:=by
 rcases l:z.get? z.objs.size with _|d
 .rfl
 cases(hp _) (vW l)
def KW(k:aO H ac Y D s):aP H.ai (Y++[a]) h ⇑D.length ⇑a:=by show#[_,k.sim.len▸tx,j]
def BM{m:Nat}{d:Option O}(z:D[m]?=d):uK ⇑m D=(match(generalizing:=false) d with|some (.list vs)=>M.N vs|_=>M.ab:Mine.M (List V)) D:=z▸j
theorem acv{B:V}{a:ar}{u:Mine.M V}(k:aO H ac Y D s)(q:aP H.ai Y s.heap B a)(Q:u=(uK B).G λT=>match aU T.length with|true=>M.N (.J T)|false=>M.ab)(h:u D≠.ab):
  bu H A (call (.type "tuple") [a]) (fk H ac Y s (u D)) bf s:=by
 subst Q;cases B with
 |J O=>
  let i:(match aU O.length with|true=>M.N (V.J O)|false=>M.ab) D≠.ab:=h;split cE _ _ _ (fk H ac Y s ((match aU O.length with|true=>M.N (V.J O)|false=>M.ab) D)) _ _;rcases l:aU O.length with _|_
  .rw[l] at i;cases i j
  let C:=q;obtain⟨E,e,p,rfl,b,g⟩:=C;show call_tuple_same #[_,b,j,_,j] (fq (t:=s.toks) j k q)
 |ref m=>
  rcases b7:D[m]? with _|z
  .cases h (n3 (BM b7))
  cases z with
  |list O=>
   let Q:(((uK ⇑m).G λT=>match aU T.length with|true=>M.N (.J T)|false=>M.ab) D)=(match aU O.length with|true=>M.N (V.J O)|false=>M.ab) D:=he (BM b7);rw[Q] at h|-;rcases l:aU O.length with _|_
   .rw[l] at h;cases h j
   obtain⟨E,rfl,v,e,p,b,g⟩:=fR k q b7;show call_tuple_list (oY b) (λc f=>?_) (ao (ds g.length) (s3 l));let U:∀y d,s.heap.get? y=I d->(c.push {cls:=.type "tuple",data:=.seq e}).get? y=I d:=λy d Q=>i9 _ (f y d Q);show#[.J O,D,Y,j,bB.keeps (t:=s.toks) k U,?_];show#[_,e,0,j,IsT.new _ _,bo.aD (cF.keeps U) (cL.refl _) _ _ g]
  |_=>cases h (n3 (BM b7))
 |_=>cases h j
theorem VN{T:List V}{a:ar}(k:aO H ac Y D s)(q:aP H.ai Y s.heap (.J T) a)(b:aU T.length=L){u:bA V}(Q:u=.ok ⇑D.length (D++[.list T])):
  bu H A (call (.type "list") [a]) (fk H ac Y s u) bf s:=by
 obtain⟨E,e,f,rfl,d,g⟩:=q;show call_list_seq E (.inr j) d j j (λN p O c=>?_) (ao (ds g.length) (s3 b));show#[⇑D.length,_,_,Q,bB.Wq (t:=s.toks) k (oI _) O #[e,p,c,bo.aD (cF.keeps O) (λU E z=>m6 z) _ _ g],KW k]
theorem abM{B:V}{a:ar}(k:aO H ac Y D s)(q:aP H.ai Y s.heap B a)(h:rf B D≠.ab):
  bu H A (call (.type "str") [a]) (fk H ac Y s (rf B D)) bf s:=by
 cases B with
 |int i=>
  let Q:rf ↑i D=(match c7 i with|true=>M.N (V.str (j6 (toString i)))|false=>M.ab) D:=j;rw[Q] at h|-;rcases l:c7 i with _|_
  .rw[l] at h;cases h j
  obtain⟨r,rfl⟩:=q;let z:=yM l;show P.str_of_int ?_ (fq (v:=.str (j6 (toString i))) j k #[_,j]);by_cases u:i.natAbs=0
  .rw[u];decide+kernel
  .have:i.natAbs.log2<100:=(afz u).mpr z;omega
 |_=>cases h j
end
section
variable{H:bk}
def so(z:eU c aj x=L):m_ c.sc x=L:=by show(dj.mp z).2
def Iq(U:Nat):V->Mine.M V
 |.none=>M.N ⇑U
 |_=>M.ab
structure Ny(H:bk)(ac:List Env)(Y:List ay)(D:aG)(s:a3)(k:Nat):Prop where
 P:df H ac Y s (Y++[s.heap.objs.size]++[s.heap.objs.size+1]) (D++[.aX []]++[.inst k D.length]) {s with heap:=(s.heap.push j7).push (o4 (fx k) s.heap.objs.size)}
 R:aP H.ai (Y++[s.heap.objs.size]++[s.heap.objs.size+1]) ((s.heap.push j7).push (o4 (fx k) s.heap.objs.size)) ⇑(D++[O.aX []]).length ⇑(s.heap.objs.size+1)
def TP(b:aO H ac Y D s):Ny H ac Y D s k:=by
 let r:=bB.push (b0:=j7) (o:=.aX []) (t:=s.toks) b #[[],ahS _,j,λe=>GA _];let C:(Y++[s.heap.objs.size])[D.length]?=I s.heap.objs.size:=by rw[<-b.sim.len,tx]
 let d:=bB.push (b0:=o4 (fx k) s.heap.objs.size) (o:=.inst k D.length) (t:=s.toks) r.aK #[_,m6 C,Heap.get?_push_at j j];let P:=r.trans d;let c:=KW (H:=H) (h:=(s.heap.push j7).push (o4 (fx k) s.heap.objs.size)) (a:=(s.heap.push j7).objs.size) r.aK;let M:(s.heap.push j7).objs.size=s.heap.objs.size+1:=Ec _ _;rw[M] at P c;show#[P,c]
theorem Py{p:Nat}{T:List V}{n:List ar}(bC:bC H c.C c.gt K)(l:ql H aB U c.aM c.ag)(an:A.frames=I ac)(m:c.aM=ak->A.handled=au)(am:A.depth<=aB)(aq:A.units<=U)(ap:U+60<kB)
  (ae:aO H ac Y D s)(q:bo H.ai Y s.heap T n){aa:Mine.M V}
  (Q:aa=(M.new (.aX [])).G λx=>(M.new (.inst p x)).G λah=>(c.ag (xA p) (⇑ah::T)).G (Iq ah))(h:aa D≠.ab):
  ht H A ac Y s (call ⇑(fx p) n) (aa D):=by
 obtain⟨t,a,v,w,i⟩:=bC.init p;let u:aa D=((c.ag (xA p) (⇑(D++[O.aX []]).length::T)).G (Iq (D++[O.aX []]).length)) (D++[.aX []]++[.inst p D.length]):=congrFun Q D;clear Q;obtain⟨z,aj,x,as,b⟩:=s;let hR:K.In z:=bC.sB.keeps ae.dy;let M:=TP (k:=p) ae;show Ew (make_core (makes_of hR i) (looks_findIn hR v) (λd=>bind_fn hR d w) (.inl j) ?_);let N:(A.under (.builtin "type.__call__" #[⇑(fx p)::n,[]])).frames=I ac:=by split pushEnvs [] A.frames=I ac;rw[an];rfl
 let e:(A.under (.builtin "type.__call__" #[⇑(fx p)::n,[]])).units=A.units+1:=by rfl'
 show Em (l _ _ _ #[_,aj,x,as,b] _ _ _ (⇑(D++[O.aX []]).length::T) _ a N m (hJ am) (e▸ao (hJ aq) (bv (U+1) 3)) ap M.P.aK #[_,n,j,M.R,q.go ae M.P] (jA (d5 u h))) λr av af=>?_;cases r with
 |error ex=>show u▸(af.trans M.P).G
 |ok J=>
  cases J with
  |ret B=>
   obtain⟨E,y,g,f,o,al⟩:=af;let u:=u.trans (he f);cases E with
   |none=>show#[al,⇑(D++[O.aX []]).length,y,g,u,M.P.trans o,aP.go M.R M.P.aK o]
   |_=>cases h u
  |_=>show af.elim
end
section
variable{H:bk}
inductive qf(c:b5)(x:Str):mP->Prop
 |len:x="len"->qf c x .len
 |J:x="tuple"->qf c x .J
 |lst:x="list"->qf c x .lst
 |str:x="str"->qf c x .str
 |cls {k:Nat}:wS x=I k->qf c x (.cls k)
 |fn:vl x=L->c.fn x=L->qf c x .fn
theorem Pf{p:mP}(z:qs c x=I p):qf c x p:=by
 unfold qs at z;rcases bs:b_ x "len" with _|_
 .rcases i:b_ x "tuple" with _|_
  .rcases e:b_ x "list" with _|_
   .rcases r:b_ x "str" with _|_
    .rw[bs,i,e,r] at z;rcases B:wS x with _|Y
     .rw[B] at z;rcases a:vl x&&c.fn x with _|_
      .simp only[a] at z;cases z
      simp only[a] at z
      injections z
      obtain⟨bJ,bZ⟩:=dj.mp a;show .fn bJ bZ
     rw[B] at z;injections z;show .cls B
    rw[bs,i,e,r] at z;injections z;show .str (gx.mp r)
   rw[bs,i,e] at z;injections z;show .lst (gx.mp e)
  rw[bs,i] at z;injections z;show .J (gx.mp i)
 rw[bs] at z;injections z;show .len (gx.mp bs)
theorem Qw{aw:mP}(bC:bC H c.C c.gt K)(aE:∀x,c.fn x=L->∃q,aT x eG=I q)(w:dm H aB U c n)(al:qm H aB U c n)(l:ql H aB U c.aM c.ag)(aa:dC H aB U c A ac ae n)(k:aO H ac Y D s)(g:br H.ai ae aj Y s.heap)
  (O:eU c aj x=L)(af:fo args=L)(aG:qs c x=I aw)(Q:m=(jD c n args aj).G λaH=>pu c x aw aH)(h:m D≠.ab):
  ht H A ac Y s (eval (.Call (.Name x p) args [] pos) ae) (m D):=by
 let ah:=so O;let Q:=congrFun Q D;let as:A.units<=U:=ao (bv ..) aa.units;cases Pf aG with
 |len T=>subst T;show F_ af (λap r=>n4 bC.gl.base aa.ok k ah (bC.np _ (.head _)) bC.F3 r) ?_;show fs Q h (λz=>al aa k g z) λu v an am e t i d=>?_;obtain⟨B,ar,rfl,rfl,y⟩:=r2 (λu=>pu c "len" .len u v) d h j (λ_ _ _=>j) i;show hC d t (U5 bC.gl.base t.aK y (d5 d h))
 |J T=>subst T;show t7 af (λap r=>n4 bC.gl.base aa.ok k ah (bC.np _ (.tail _ (.head _))) bC.Az r) ?_;show fs Q h (λz=>al aa k g z) λu v an am e t i d=>?_;obtain⟨B,ar,rfl,rfl,y⟩:=r2 (λu=>pu c "tuple" .J u v) d h j (λ_ _ _=>j) i;show hC d t (acv t.aK y j (d5 d h))
 |lst T=>
  subst T;show t7 af (λap r=>n4 bC.gl.base aa.ok k ah (bC.np _ (.tail _ (.tail _ (.head _)))) bC.F4 r) ?_;show fs Q h (λz=>al aa k g z) λu v an am e t i d=>?_;obtain⟨B,ar,rfl,rfl,y⟩:=r2 (λu=>pu c "list" .lst u v) d h j (λE _ _=>by cases E<;>rfl) i;cases B with
  |J ax=>have ay:=iu (b:=aU ax.length) (x:=(M.new (.list ax)).G λn=>M.N (V.ref n)) d h;show hC ay.2 t (VN t.aK y ay.1 j)
  |_=>cases h d
 |str T=>subst T;show t7 af (λap r=>n4 bC.gl.base aa.ok k ah (bC.np _ (.tail _ (.tail _ (.tail _ (.head _))))) bC.F8 r) ?_;show fs Q h (λz=>al aa k g z) λu v an am e t i d=>?_;obtain⟨B,ar,rfl,rfl,y⟩:=r2 (λu=>pu c "str" .str u v) d h j (λ_ _ _=>j) i;show hC d t (abM t.aK y (d5 d h))
 | @cls av T=>show D7 j (LQ bC.gl.base aa.ok k ah (bC.cls x av T) ?_);show callWith_of (P:=K.In) (by rw[q0 af];rfl) (keeps_K (bC.keep av)) (pj af ?_);show fs Q h (λz=>al aa k g z) λu v an am e t i d=>?_;show#[bC.sB.keeps t.aK.dy,l_ d t (Py bC l aa.frames aa.handled aa.depth as aa.line t.aK i j (d5 d h))]
 |fn f aC=>obtain⟨q,aq⟩:=aE x aC;obtain⟨aA,az,aF,aD⟩:=bC.A6 x q aq;show Pg (a:=q.addr) (o:=aA) (fd:=az) af (λap r=>LQ bC.gl.base aa.ok k ah (bC.fn x q aq f) r) ?_;show fs Q h (λz=>al aa k g z) λu v an am e t i d=>?_;show#[#[t.aK.dy _ _ aF,aD],l_ d t (Ew (l _ _ _ _ _ _ _ _ _ (by unfold uk;rw[aq];rfl) aa.frames aa.handled (lW aa.depth) (ao as (bv ..)) aa.line t.aK i (d5 d h)))]
theorem T4{r:aW}(z:uH x r=L):∃v,r=.Name x v:=by
 cases r with
 |Name e v=>show#[v,by rw[gx.mp (show b_ e x=L from z)]]
 |_=>cases z
theorem QB{E l:aW}(bC:bC H c.C c.gt K)(w:dm H aB U c n)(u:dC H aB U c A ac ae n)(k:aO H ac Y D s)(g:br H.ai ae aj Y s.heap)
  (O:eU c aj x=L)(aa:fo [E,l]=L)(T:x="isinstance")(af:uH "tuple" l=L)(ag:eU c aj "tuple"=L)
  (Q:m=(ev c n E aj).G λ|.J _=>M.N (.bool L)|.none|.bool _|.int _|.str _=>M.N (.bool ak)|_=>M.ab)(h:m D≠.ab):
  ht H A ac Y s (eval (.Call (.Name x p) [E,l] [] pos) ae) (m D):=by
 subst T;obtain⟨d,rfl⟩:=T4 af;show F_ aa (λb ah=>n4 bC.gl.base u.ok k (so O) (bC.np _ (.tail _ (.tail _ (.tail _ (.tail _ (.head _)))))) bC.F1 ah) ?_;rw[vC (cd aa).1];show zi (fs (congrFun Q D) h (λz=>w u k g z) λB q an a V r o f=>?_);show zi (n4 bC.gl.base u.ok r.aK (so ag) (bC.np _ (.tail _ (.head _))) bC.Az (D' ?_));cases B with
 |J am=>obtain⟨y,e,al,rfl,T,_⟩:=o;show hC f r (IsiPair.tuple_tuple T j (fq (v:=.bool L) (t:=V.toks) j r.aK j))
 |none=>obtain rfl:a=.none:=o;show hC f r (IsiPair.NoneType_tuple (fq (v:=.bool ak) j r.aK j))
 |bool y=>obtain rfl:a=.bool y:=o;show hC f r (IsiPair.bool_tuple (fq (v:=.bool ak) j r.aK j))
 |int i=>obtain⟨l,rfl⟩:=o;show hC f r (IsiPair.int_tuple (fq (v:=.bool ak) j r.aK j))
 |str i=>obtain⟨l,rfl⟩:=o;show hC f r (IsiPair.str_tuple (fq (v:=.bool ak) j r.aK j))
 |_=>cases h f
end
section
variable{H:bk}
theorem xh{base z N:bj}:∀{M:List Env},z.FunFrames base M->(∀y∈eH M,∀d,z.get? y=I d->N.get? y=I d)->N.FunFrames base M
 |[],_,_=>trivial
 |i::J,#[O,#[g,h,b,a,e,G],x],p=>by show#[O,#[g,h,b,a,p g (rv.mpr #[_,.head _,b]) _ e,G],xh x λy C=>p y ?_];simp only[eH,zF,b];show mI _ C
theorem bB.adopt{b0:Obj}{o:O}{hk:Nat}(k:aO H ac Y D s)(U:b0.cls=.type "dict")(N:b0.isFreed=ak)(P:df H ac Y {s with heap:=s.heap.push b0,toks:=t} a0 bM ba)
  (C:j5 s.heap.objs.size ba.heap aI)(q:fW H.w H.ai (a0++[s.heap.objs.size]) aI o s.heap.objs.size):
  df H ac Y s (a0++[s.heap.objs.size]) (bM++[o]) {ba with heap:=aI,toks:=hk}:=by
 let v:=oI s.heap;let aa:∀y o,s.heap.get? y=I o->(s.heap.push b0).get? y=I o:=λy o Q=>i9 _ Q;obtain⟨⟨T,rfl,c⟩,ah,ab⟩:=P.ext;let aj:s.heap.objs.size∉Y:=λl=>by obtain⟨af,f,_⟩:=k.sim.mut l;rw[v] at f;cases f
 let ae:(s.heap.push b0).get? s.heap.objs.size=I b0:=nG _ N;let i:s.heap.objs.size∉Y++T:=λl=>by
  obtain l|l:=d9.mp l
  .show aj l
  .have:=c _ l;rw[ae] at this;cases this
 obtain⟨G,al,g⟩:=ab _ _ ae;let b:∀y o,y≠s.heap.objs.size->ba.heap.get? y=I o->aI.get? y=I o:=λy o p Q=>(C.2 y p).trans Q;let bn:cF ba.heap aI:=l6 C al (r_ (g.trans U));let V:H.base.get? s.heap.objs.size=au:=by
  rcases l:H.base.get? s.heap.objs.size with _|o
  .rfl
  rw[k.dy _ _ l] at v;cases v
 let h:∀y∈eH ac,y≠s.heap.objs.size:=λy p l=>by obtain⟨_,o,Q,_⟩:=k.fm.mem p;rw[l,v] at Q;cases Q
 let x:=P.aK;show#[#[#[by have:=x.sim.len;simp at this|-;omega,λm af a=>?_,y9.mpr #[x.sim.iX,by simp,λu am e M=>by rw[fC.mp M];show λl=>i (l▸am)],λy p=>?_],λy o Q=>b y o (λl=>by rw[l,V] at Q;cases Q) (x.dy y o Q),xh x.fm λy p o Q=>b y o (h y p) Q,λy p l=>?_,λy p o Q=>?_],?_,trivial,P.os,P.gens]
 .by_cases Q:m<bM.length
  .rw[eP Q] at a;obtain⟨y,f,ag⟩:=x.sim.rep m af a;show#[y,m6 f,ag.aD bn (λ_ _ l=>m6 l) λo Q=>b y o (λl=>i (l▸ry f)) Q]
  .rw[kE (vT.mp Q)] at a;let an:m-bM.length=0:=by have:=(c5.mp a).1;simpa using this
   have:m=bM.length:=by omega
   subst this;simp at a;subst a;show#[_,x.sim.len▸tx,q]
 .obtain l|l:=d9.mp p
  .show x.sim.low y l
  .rw[fC.mp l];show V
 .obtain l|l:=d9.mp l
  .show x.apart y p l
  .rw[fC.mp l] at p;show h _ p j
 .obtain⟨_,B,J,_⟩:=x.fm.mem p;have:=b y B (h y p) J;rw[Q] at this;rw[bR this];show x.hY y p B J
 .show#[#[T++[s.heap.objs.size],ez ..,λE A=>?_],λy o Q p=>?_,λy o Q=>?_]
  .obtain l|l:=d9.mp A
   .have:=c E l;rcases Q:s.heap.get? E with _|o
    .rfl
    rw[aa _ _ Q] at this;cases this
   .rw[fC.mp l];show v
  .let r:y≠s.heap.objs.size:=λl=>by rw[l,v] at Q;cases Q
   show(ah y o (aa _ _ Q) p).trans λB J=>.inl (b y B r J)
  .let r:y≠s.heap.objs.size:=λl=>by rw[l,v] at Q;cases Q
   obtain⟨z,d,n⟩:=ab y o (aa _ _ Q);show#[z,b y z r d,n]
end
def pairsOf(i:Env)(pos:Pos):List aW->List aW->List (Sem ar×Sem ar)
 |k::H,e::es=>(eval k i,do let x<-eval e i;v7 pos;pure x)::pairsOf i pos H es
 |_,_=>[]
def wv(T:bk):List ay->bj->List (V×V)->List (ar×ar)->Prop:=λY h l r=>bo T.ai Y h (l.map (·.1)) (r.map (·.1))/\bo T.ai Y h (l.map (·.2)) (r.map (·.2))
def ws(T:bk)(t a:Nat)(g:b5)(U:Nat):Prop:=∀{A ac ae aj Y s D H es pos},dC T t a g A ac ae U->aO T ac Y D s->br T.ai ae aj Y s.heap->l8 g U H es aj D≠.ab->
 bu T A (M6 (pairsOf ae pos H es)) (d2 T ac Y s (wv T) (l8 g U H es aj D)) (fX T ac Y s (l8 g U H es aj D)) s
section
variable{H:bk}
def W'(k:aO H ac Y D s){q:bA (List (V×V))}(Q:q=.ok [] D):bu H A (M6 (pairsOf ae pos [] [])) (d2 H ac Y s (wv H) q) (fX H ac Y s q) s:=evalPairs_nil #[[],D,Y,Q,.refl k,j,j]
def W9{p u:aW}{aa b:List aW}(w:dm H aB U c n)(ag:ws H aB U c n)(J:dC H aB U c A ac ae n)(k:aO H ac Y D s)(g:br H.ai ae aj Y s.heap){m:Mine.M (List (V×V))}
  (Q:m=(ev c n p aj).G λah=>(ev c n u aj).G λB=>(l8 c n aa b aj).G λal=>M.N ((ah,B)::al))(h:m D≠.ab):
  bu H A (M6 (pairsOf ae pos (p::aa) (u::b))) (d2 H ac Y s (wv H) (m D)) (fX H ac Y s (m D)) s:=by
 show evalPairs_cons (fs (congrFun Q D) h (λz=>w J k g z) λE ao ar an ap r o f=>?_);let q:=g.go k r;show be (k6 r f h (λz=>w J r.aK q z) λy v as l e hO t i d=>?_);show be (EA (cK ?_));show k6 hO d h (λz=>ag J t.aK (q.go r.aK t) z) λx am T aq C a P3 O af=> #[(E,y)::x,am,T,af,a,#[an,_,j,(o.go r.aK t).go t.aK P3,O.1],l,_,j,i.go t.aK P3,O.2]
theorem abt{T:List (Option aq)}{q:List aq}(z:nt T=I q):T=q.map I:=by
 induction T generalizing q with
 |nil=>obtain rfl:=bR z;rfl
 |cons E T w=>
  obtain _|E:=E
  .show db z
  let z:(match nt T with|some T=>I (E::T)|none=>au)=I q:=z;generalize nt T=d at z w;obtain _|g:=d
  .show db z
  obtain rfl:=bR z;show aN _ (w j)
theorem aa5(i:Env)(a:Pos)(H b:List aW)(z:H.length=b.length):(evalEachOpt (H.map I) i).zip ((M5 b i).map λB=>do let x<-B;v7 a;pure x)=(pairsOf i a H b).map λv=>(I v.1,v.2):=by
 induction H generalizing b with
 |nil=>cases b<;>first|rfl|cases z
 |cons p H w=>cases b<;>first|cases z|show aN (zC _) (w _ (tm z))
theorem Xj(i:Env)(a:Pos)(H b:List aW)(z:H.length=b.length):(pairsOf i a H b).length=H.length:=by
 induction H generalizing b with
 |nil=>cases b<;>rfl
 |cons p H w=>cases b<;>first|cases z|show aN j4 (w _ (tm z))
theorem Vw{T:List (Str×aq)}(z:aT x T=au):x∉T.map (·.1):=by
 induction T with
 |nil=>show DY
 |cons v T w=>
  obtain⟨e,B⟩:=v;rw[mn] at z;by_cases l:x=e
  .rw[aL l] at z;cases z
  .rw[aS l] at z;show λi=>(gm.mp i).elim l (w z)
inductive E_(k v:V)(l:List (V×V))(es:List (Str×V)):Prop
 |mk (x:Str) (c:List (Str×V)) (e:k=.str x) (h:km l=I c) (b:aT x c=au) (a:es=(x,v)::c):E_ k v l es
theorem IN{p B:V}{T:List (V×V)}{b:List (Str×V)}(z:km ((p,B)::T)=I b):E_ p B T b:=by
 let z:(match LA p,km T with|some D,I q=>(match(aT D q).isNone with|true=>I ((D,B)::q)|false=>au)|_,_=>au)=I b:=z;cases p with
 |str u=>
  rcases l:km T with _|q
  .rw[l] at z;show db z
  rw[l] at z;let z:=od z;show#[u,q,j,l,zd.mp z.1,z.2.symm]
 |_=>show db z
inductive E'(H:bk)(Y:List ay)(h:bj)(r:List (ar×ar))(es:List (Str×V)):Prop
 |mk (kvs:List (Str×ar)) (O:Carries (gq aZ H.w) r kvs) (n:e7 H.ai Y h es kvs) (x:(es.map (·.1)).Nodup):E' H Y h r es
theorem UB{T:List (V×V)}{q:List (ar×ar)}{b:List (Str×V)}(Q:km T=I b)(f:bo H.ai Y h (T.map (·.1)) (q.map (·.1)))(o:bo H.ai Y h (T.map (·.2)) (q.map (·.2))):E' H Y h q b:=by
 induction T generalizing q b with
 |nil=>
  obtain rfl:=bR Q;obtain _|⟨v,q⟩:=q
  .show#[[],trivial,j,rz]
  cases(show _=[] from f)
 |cons v T w=>
  obtain⟨p,B⟩:=v;obtain⟨u,c,rfl,l,e,rfl⟩:=IN Q;obtain _|⟨v,q⟩:=q
  .obtain⟨_,_,f,_⟩:=f;cases f
  obtain⟨mu,g⟩:=v;obtain⟨_,_,k,i,a⟩:=f;obtain⟨_,_,d,N,z⟩:=o;obtain⟨rfl,rfl⟩:=Ni k;obtain⟨rfl,rfl⟩:=Ni d;obtain⟨m,O,n,x⟩:=w l a z;obtain⟨r,rfl⟩:=i;show#[(u,g)::m,#[by simp[gq,o2],j,O],#[_,_,j,N,n],j0.mpr #[Vw e,x]]
def QX{p:aW}{H b:List aW}(z:l8 c n (p::H) b aj D=.ok [] bM):False:=by
 obtain _|n:=n
 .cases z
 obtain _|⟨Q,b⟩:=b
 .cases z
 obtain⟨_,_,z⟩:=Au (show((ev c n p aj).G λg=>(ev c n Q aj).G λB=>(l8 c n H b aj).G λq=>M.N ((g,B)::q)) D=.ok [] bM from z);obtain⟨_,_,z⟩:=Au z;obtain⟨_,_,z⟩:=Au z;cases z
def JG(kvs:List (V×V)):Mine.M V:=match km kvs with
 |some es=>(M.new (.aX es)).G λi=>M.N ⇑i
 |none=>M.ab
inductive EL(H:bk)(ac:List Env)(Y:List ay)(s:a3)(dc:bA V)(kvs:List (V×V))(vs:List (ar×ar))(ba:a3):Prop
 |mk (a:List (Str×ar)) (O:Carries (gq aZ H.w) vs a) (n:ba.heap.DictOf (gq aZ H.w) s.heap.objs.size [])
  (h:∀aI,aI.DictOf (gq aZ H.w) s.heap.objs.size (merged [] a)->j5 s.heap.objs.size ba.heap aI->(kvs=[]->aI.DictAt (kC aZ H.w) s.heap.objs.size [] 0)->∀t,fk H ac Y s dc ⇑s.heap.objs.size {ba with heap:=aI,toks:=t}):EL H ac Y s dc kvs vs ba
theorem GD{m:bA V}{kvs:List (V×V)}{vs:List (ar×ar)}(k:aO H ac Y D s)(u:m=JG kvs bM)(h:m≠.ab)(r:df H ac Y {s with heap:=s.heap.push j7} a0 bM ba)(f:wv H a0 ba.heap kvs vs):EL H ac Y s m kvs vs ba:=by
 let u:m=(match km kvs with|some b=>(M.new (.aX b)).G λi=>M.N ⇑i|none=>M.ab:Mine.M V) bM:=u;rcases l:km kvs with _|c
 .rw[l] at u;cases h u
 rw[l] at u;obtain⟨a,O,n,x⟩:=UB l f.1 f.2;let e:s.heap.objs.size∉[]++Y:=λl=>(k.sim.mut l).elim λA z=>nomatch (oI s.heap).symm.trans z.1
 let d:=(r.ext.keep _ _ (nG s.heap (o:=j7) j) e).of (by simp[j7]);show#[a,O,#[_,(gn []),0,d,#[j,j,j],j,λB w=>(nomatch w),agg,rz],λp g C Q y=>?_]
 rw[merged_nil_of_nodup _ (by rw[CX n];show x)] at g;show#[⇑bM.length,_,_,u,bB.adopt (H:=H) (t:=s.toks) (hk:=y) (o:=.aX c) (aI:=p) k (b0:=j7) j j r C #[a,g,e7.aD (l6 C d (by simp[j7])) (λU E z=>m6 z) _ _ n,λb7=>Q ?_],_,by rw[<-r.aK.sim.len,tx],j];subst b7;obtain _|⟨v,q⟩:=kvs
 .rfl
 obtain⟨_,_,_,_,_,z⟩:=IN l;cases z
theorem Qz{ag es:List aW}{i:List (Option aW)}(r:ws H aB U c n)(J:dC H aB U c A ac ae n)(k:aO H ac Y D s)(g:br H.ai ae aj Y s.heap)
  (am:nt i=I ag)(aa:(b' i.length 15&&cA i.length es.length)=L)
  (Q:m=(l8 c n ag es aj).G JG)(h:m D≠.ab):
  ht H A ac Y s (eval (.Dict i es pos) ae) (m D):=by
 let E:=abt am;subst E;let aa:=cd aa;let B:=cc aa.1;let e:=rA aa.2;rw[fU] at B e;let Q:=congrFun Q D;let z:∀y d,s.heap.get? y=I d->(s.heap.push j7).get? y=I d:=λy d Q=>i9 _ Q;let v:Inv H.w H.ai H.base ac Y D (s.heap.push j7):=k.keeps z;let o:df H ac Y s Y D {s with heap:=s.heap.push j7}:=bB.keeps (t:=s.toks) k z;obtain _|⟨p,T⟩:=ag
 .obtain _|⟨u,q⟩:=es
  .obtain _|ap:=n
   .cases h Q
   obtain⟨a,O,af,x⟩:=GD (kvs:=[]) (vs:=[]) k Q h (.refl v) #[j,j];obtain _|⟨_,_⟩:=a
   .show wpAny_Dict_empty (x _ af (ahU _ _) (λ_=>GA _) s.toks)
   show O.elim
  cases e
 let b:=Xj ae pos _ _ e;let an:pairsOf ae pos (p::T) es≠[]:=λl=>by rw[l] at b;cases b
 show wpAny_Dict_pairs (knd:=gq aZ H.w) (aa5 ae pos _ _ e) an (by rw[b];show B) ?_;show eb (r (es:=es) (pos:=pos) (s:={s with heap:=s.heap.push j7}) J v (g.go k o) (λl=>h (Q.trans (n3 l)))) (λar V f=>?_) λex V f=>Q▸(f.trans o).G;obtain⟨ao,aq,as,f,ah,M⟩:=f;obtain⟨a,O,af,x⟩:=GD k (Q.trans (he f)) h ah M;show#[a,O,af,λN al C=>x N al C (λl=>?_) _];subst l;show(QX f).elim
end
variable{aR:a3}{c3:aG}
section
variable{H:bk}{Z:ii H.ai}{M:oZ}
theorem bB.near{ex:List ay}(k:aO H ac Y D s)(P:bB H ac Z Y s a0 c3 aR)(U:nR (eH ac) ex aR.heap fL)(T:∀y∈ex,s.heap.get? y=au/\∀d,aR.heap.get? y=I d->∃O,d.data=.fields O):
  bB H ac Z Y s a0 c3 {aR with heap:=fL}:=by
 let C:∀y∈ex,H.base.get? y=au:=λy l=>by
  rcases Q:H.base.get? y with _|d
  .rfl
  have:=k.dy _ _ Q;rw[(T y l).1] at this;cases this
 let r:∀y d,s.heap.get? y=I d->y∉ex:=λy d Q l=>by rw[(T y l).1] at Q;cases Q
 show#[P.aK.near U λy l=> #[C y l,(T y l).2],#[P.ext.pre,λy d Q a=>?_,λy d Q=>?_],Z.x8 P.pr U #[λy l=>(T y l).2,P.aK.hY],P.os,P.gens]
 .show(P.ext.keep y d Q a).trans λB J=>?_;obtain⟨⟨n,f⟩,o⟩:=U y B J (r y d Q);by_cases l:y∈eH ac
  .show .inr #[P.aK.hY y l B J,n,f]
  .show .inl (o l)
 .obtain⟨B,J,b⟩:=P.ext.qw y d Q;obtain⟨⟨n,f⟩,o⟩:=U y B J (r y d Q);show#[_,f,b]
inductive hQ(H:bk)(ac:List Env)(Z:ii H.ai)(Y:List ay)(s:a3)(r:bA aq)(k0:hM->Prop)(e:ar)(aR:a3):Prop
 |intro(c3:aG) (b2:List ay) (a:ay) (m:hM) (h:r=.exc c3) (q:e= ⇑a) (P:bB H ac Z Y s b2 c3 aR) (x:pa s.heap a m aR.heap) (f:k0 m):hQ H ac Z Y s r k0 e aR
def wh(g:ay):hM->Prop:=λm=>∃T,m=.at T (o6 g)
def NI:hM->Prop:=λm=>∃T,m=.at T .none
theorem hQ.hl{Q:ar}{v:hM->Prop}(z:hQ H ac Z Y s r v Q aR)(p:∀m,v m->m.Hi ac):dN H ac Z Y s r Q aR:=by obtain⟨y,g,E,m,f,o,M,b,O⟩:=z;show#[y,g,E,m,f,o,M,b,p m O]
theorem qx{y:ay}(P:bB H ac Z Y s a0 c3 aR)(z:aR.heap.get? y=au):s.heap.get? y=au:=by
 rcases Q:s.heap.get? y with _|d
 .rfl
 obtain⟨B,J,_⟩:=P.ext.qw y d Q;rw[z] at J;cases J
def LM{m:hM}{u n t:ar}{xn:(tp aR.heap (m.ex a++eH ac)).StaysIn fL}(k:aO H ac Y D s)(Q:r=.exc c3)(P:bB H ac Z Y s a0 c3 aR)(J:pa s.heap a m aR.heap)
  (i:u=.type "ValueError")(A:fL.TracedAtW (tp aR.heap (m.ex a++eH ac)) a u n t)(z:∀y d,aR.heap.get? y=I d->(∀O,d.data≠.fields O)->∃V,fL.get? y=I {d with slots:=V}):
  hQ H ac Z Y s r (λk0=>∃T,k0=.at T t) ⇑a {aR with heap:=fL}:=by
 let G:=Hw P.aK.fm;let U:nR (eH ac) (m.ex a) aR.heap fL:=Wp xn z G;let N:=J.fields;let x:∀y∈m.ex a,s.heap.get? y=au/\∀d,aR.heap.get? y=I d->∃O,d.data=.fields O:=N;let h:=bB.near k P U x;obtain⟨c,O,T,C,q,f,⟨o,M⟩,b,w,g,B,E,e,v⟩:=A;show#[c3,a0,a,.at T t,Q,j,h,#[J.new,c,O,n,f,by rw[o,i],b,M,w,?_,B,C,q,E,e,v],T,j];rcases l:aR.heap.get? T with _|d
 .show qx P l
 by_cases p:T∈m.ex a++eH ac
 .obtain p|p:=d9.mp p
  .show(x T p).1
  .have:=Hw h.aK.fm T p C E q;cases this e
 .rw[hideAll_get _ l p] at g;cases g
def WH{Q:ar}(z:ae.frame=iW.frame):zz Q ae=zz Q iW:=by unfold zz PySem.frameOf;rw[z]
def Bs{T:List ay}{y:ay}(l:y∈T):(tp h T).get? y=au:=hideAll_none T l
theorem x7{Q:ar}(h:A.frames=I ac)(N:ac=iW::pS)(B:iW.frame=I b6)(b:ae.frame=I b6)(k:aO H ac Y D s)(z:dN H ac Z Y s r Q aR):
  cE M A (zz Q ae) (λ_=>hQ H ac Z Y s r (wh b6) Q) bf aR:=by
 obtain⟨y,g,E,m,f,rfl,P,J,ah⟩:=z;rw[WH (iW:=iW) (b.trans B.symm)];let e:=J;obtain⟨v,c,O,n,V,U,G,u,i⟩:=e;let af:(tp aR.heap (m.ex E++eH ac)).StaysIn aR.heap:=λao d l=>of_hideAll _ l;let ab:=RY (ex:=m.ex E) P.aK.fm;let aa:E∈m.ex E++eH ac:=by cases m<;>show nB _ (.head _)
 cases m with
 |new=>unfold zz;simp only[B];show be (tt V G i ?_);show wpAny_entryW (h.trans (aN I N)) (N▸ab) B V af (Bs aa) G (Mo.mp i).1 u λai p=>LM (xn:=p.1) k f P J U p.2.2.1 p.2.2.2
 | «at» T t=>
  obtain⟨x,w,o,C,q,aj,al,am⟩:=i;let a:aR.heap.TracedAtW (tp aR.heap (hM.ex E (.at T t)++eH ac)) E c.cls n t:= #[c,O,T,C,q,V,#[j,u],G,x,Bs (nB _ (.tail _ (.head _))),o,aj,al,am];obtain rfl|⟨ap,an,bs,ag,rfl⟩:=ah
  .show wpAny_noteFrame_onW (h.trans (aN I N)) (N▸ab) B a af (Bs aa) λai p=>LM (xn:=p.1) k f P J U p.2.2.1 p.2.2.2
  .rw[N,List.head?_cons] at bs;obtain rfl:=bR bs;rw[B] at ag;obtain rfl:=bR ag;show wpAny_noteFrame_againW B a #[y,g,E,_,f,j,P,J,T,j]
theorem uj{Q:ar}{t:ar}(B:Option ay)(k:aO H ac Y D s)(z:hQ H ac Z Y s r (λk0=>∃T,k0=.at T t) Q aR):
  cE M A (setFlight Q B) (λ_=>hQ H ac Z Y s r (λk0=>∃T,k0=.at T (B.elim .none λt=>o6 t)) Q) bf aR:=by
 obtain⟨ab,g,E,m,bJ,rfl,P,J,T,rfl⟩:=z;let p:=J;obtain⟨v,c,O,n,V,U,G,u,x,w,o,ae,q,a,b,N⟩:=p;let i:=(Mo.mp N).1;show be (tt V G x ?_);show wpAny_setField a b i ?_;let e:∀(t:Obj->Obj) y,y≠T->(aR.heap.update T t).get? y=aR.heap.get? y:=λt y C=>MK _ _ (i8 C);let aa:nR (eH ac) [T] aR.heap (aR.heap.update T (agc (·.setIfInBounds 3 (B.elim .none λt=>o6 t)))):=λy d C f=>by have:=(e (agc (·.setIfInBounds 3 (B.elim .none λt=>o6 t))) y (by simpa using f)).trans C;show#[#[d.slots,this],λ_=>this]
 let h:=bB.near k P aa λy C=>by rw[fC.mp C];show#[w,λd l=>by rw[a] at l;injections l;show#[_,b]]
 show#[ab,g,E,.at T (B.elim .none λt=>o6 t),bJ,j,h,#[v,c,O,n,(e _ E (i8 o)).trans V,U,G,u,x,w,o,_,_,qa _ a (Obj.isFreed_of_fields (agb b _)),agb b _,by simp[i]],T,j]
def U0{Q:ar}(h:A.frames=I ac)(N:ac=iW::pS)(B:iW.frame=I b6)(b:ae.frame=I b6)(k:aO H ac Y D s)(z:dN H ac Z Y s r Q aR):
  cE M A (leaving ae Q) (λa=>hQ H ac Z Y s r NI Q) bf aR:=by
 show be (eb (x7 (bf:=bf) h N B b k z) (λa e o=>uj au k o) λa a u=>u)
theorem Xy{d:String}{Q:ar}{t:ar}{cM:aC->a3->Prop}(b:ae.frame=I b6)(k:aO H ac Y D s)(z:hQ H ac Z Y s r (λk0=>∃T,k0=.at T t) Q aR):
  cE M A (Na d Q ae) cM (hQ H ac Z Y s r (wh b6)) aR:=by
 let N:=z;obtain⟨y,g,E,m,f,rfl,P,J,T,rfl⟩:=z;obtain⟨v,c,O,n,V,U,G,h,x,w,i,C,q,a,l,j⟩:=J;show be (tt V G x ?_);show be ?_;rw[b];show eb (uj (I b6) k N) (λp e o=>wpAny_throw o) λp p u=>u
end
section
variable{H:bk}{Z:ii H.ai}{pr:List Str}{M:oZ}
def Yf{g:ar}{D:Array (Option ar)}(v:List ea×Bool):(yp g d D n v).cls=g/\(yp g d D n v).isFreed=ak:=by obtain⟨b,_|_⟩:=v<;>show#[j,j]
def Yg{g:ar}{D:Array (Option ar)}{O:Array ar}(v:List ea×Bool)(l:(yp g d D n v).data=.fields O):False:=by obtain⟨b,_|_⟩:=v<;>cases l
def yo(u:Str)(h:Int)(p B:ar)(d:Obj):(gA u h p B d).cls=d.cls/\((gA u h p B d).isFreed=d.isFreed):=by
 obtain⟨g,x,c,n⟩:=d;cases c<;>first|show#[j,j]|skip
 show Yf _
def Cr{b:Array ea}{d:Unit->a3->Prop}(N:s.heap.get? a=I o)(G:o.data=.dict b AW)(O:StrKeys b)
  (z:∀h r,d bL {s with heap:=s.heap.update a (gA x h (.str x r) v),toks:=s.toks+1}):cE M A (nsSet a x v) d bf s:=by
 show be (be (agX (cK (be (ag2 (be (Nf N ?_)))))));rw[G];dsimp only;let C:(!b.any (·.key.isStr x)&&b.any (·.refKey))=ak:=by
  have:b.any (·.refKey)=ak:=by rw[Array.any_eq_false'];intro Q V;obtain⟨U,r,z⟩:=O Q V;simp[af2,z]
  rw[this,y8]
 rw[agz,C];show ahb N (z _ _)
theorem Cu{m:Str->Option ar}(j:h.Ns a m):(h.update a (gA x cz (.str x t) v)).Ns a (λe=>if e=x then I v else m e):=by
 obtain⟨d,b,D,N,G,O,i⟩:=j;let f:(gA x cz (.str x t) v d).isFreed=ak:=vn G;let T:=qa (gA x cz (.str x t) v) N f;obtain⟨g,l,c,n⟩:=d;subst G;rcases J:b.findIdx? (·.key.isStr x) with _|k
 .show#[_,_,D+1,T,by simp only[age,agd,J];rfl,O.push _ _ _ _,λe=>?_];split _=if e=x then I v else m e;rw[<-i];show findBy_push (λU v=>v.isStr U) b x e _ _ v (λo=>by
   split (x==o)= ↥(o=x);by_cases h:o=x
   .subst h;simp
   .have:¬x=o:=λQ=>h Q.symm;simp[h,this]) J
 show#[_,_,D,T,by simp only[age,agd,J];rfl,O.modify _ _,λe=>?_];split _=if e=x then I v else m e;rw[<-i];show findBy_modify (λU v=>v.isStr U) Value.isStr_inj b x e v k J
theorem Hv{base z N:bj}:∀{M:List Env},z.FunFrames base M->(∀y∈eH M,∀d,z.get? y=I d->(∀O,d.data≠.fields O)->∃B,N.get? y=I B/\∀O,B.data≠.fields O)->N.FunFrames base M
 |[],_,_=>trivial
 |i::J,#[c,#[g,h,b,a,e,G],x],p=>by obtain⟨B,f,o⟩:=p g (by simp[eH,b]) _ e G;show#[c,#[g,B,b,a,f,o],Hv x λy C=>p y ?_];simp only[eH,zF,b];show mI _ C
def Ye(u:Str)(h:Int)(p B:ar)(d:Obj)(z:∀O,d.data≠.fields O):∀O,(gA u h p B d).data≠.fields O:=by
 obtain⟨g,x,c,n⟩:=d;intro O l;cases c<;>first|show z O l|skip
 show Yg (nsPutIn u.cps.size u.cps.toList (λ|some Q=>{Q with val:=B}|none=> #[h,p,B]) _) l
structure eA(H:bk)(aB U:Nat)(c:b5)(A:iH)(ac:List Env)(ae:Env)(n:Nat):Prop where
 at_:dC H aB U c A ac ae n
 top:∃pS,ac=ae::pS
 own:ae.frame=I ae.locals
theorem eA.low(u:eA H aB U c A ac ae (n+1)):eA H aB U c A ac ae n:= #[u.at_.low,u.top,u.own]
def VZ{q:List Str}:iy (y::q) x=(match b_ x y with|true=>ak|false=>iy q x):=j
theorem V0(z:iy pr x=L):x∉pr:=by
 induction pr with
 |nil=>show DY
 |cons e q w=>
  rw[VZ] at z;rcases l:b_ x e with _|_
  .rw[l] at z;show λi=>(gm.mp i).elim (oE.mp l) (w z)
  rw[l] at z;cases z
theorem br.put{v:V}{a:ar}{m:Str->Option ar}(aa:br H.ai ae aj Y h)(c:ae.kindOf x=I .local)(bn:cF h aI)(ag:j5 ae.locals h aI)(ab:h.Ns ae.locals m)(s:aI.Ns ae.locals (λe=>if e=x then I a else m e))(y:aP H.ai Y h v a):
  br H.ai ae (put x v aj) Y aI/\∀u,(∀e A,aT e u=I A->e≠x)->br H.ai ae u Y h->br H.ai ae u Y aI:=by
 let same:∀r,h.Ns ae.locals r->r=m:=λr bJ=>by
  obtain⟨d,b,D,N,G,_,i⟩:=bJ;obtain⟨z,t,B,f,J,_,al⟩:=ab;rw[N] at f;obtain rfl:=bR f;rw[G] at J
  injections J
  funext e;rw[<-i e,<-al e]
 let af:∀{g:ay}{A:ar},h.IsCell g (I A)->aI.IsCell g (I A):=λ{g A} #[n,k,G]=>by show#[n,(ag.2 g λl=>?_).trans k,G];obtain⟨z,t,B,f,J,_⟩:=ab;rw[l,f] at k;rw[bR k,G] at J;cases J
 let ac:∀u,br H.ai ae u Y h->∀e A,e≠x->aT e u=I A->tL H.ai ae (λe=>if e=x then I a else m e) Y aI e A:=by
  intro u q e A O M;obtain⟨an,r,w,i⟩:=q;obtain rfl:=same r w;obtain⟨p,o,Q,T⟩|⟨p,C,o,U,ah,E,T⟩:=i e A M
  .show .inl #[p,o,by simp only[aS O];show Q,aP.aD bn (cL.refl _) _ _ T]
  .show .inr #[p,C,o,U,ah,af E,aP.aD bn (cL.refl _) _ _ T]
 show#[#[aa.off,_,s,λe A M=>?_],λu am q=> #[aa.off,_,s,λe A M=>ac u q e A (am e A M) M]];rw[Vx] at M;by_cases l:e=x
 .subst l;rw[aL j] at M;obtain rfl:=bR M;show .inl #[c,a,by simp,aP.aD bn (cL.refl _) _ _ y]
 .rw[aS l] at M;show ac aj aa e A l M
theorem vD{v:V}{a:ar}(J:eA H aB U c A ac ae n)(k:aO H ac Y D s)(g:br H.ai ae aj Y s.heap)(ax:aP H.ai Y s.heap v a)(aq:iy pr x=L)(ap:f6 c.sc x=L){d:Unit->a3->Prop}
  (z:∀E,lp H ac ae pr Y s Y D E->br H.ai ae (put x v aj) Y E.heap->d bL E):cE M A (Eu ae x a) d bf s:=by
 let O:=J.at_.ok.aj x ap;rw[Nc O (by rw[J.at_.ok.kind];rfl)];obtain⟨m,aa,aC⟩:=id g.names;obtain⟨af,b,az,N,G,ao,aA⟩:=id aa;show Cr N G ao λh r=>?_;let as:=Cu (x:=x) (cz:=h) (t:=r) (v:=a) aa;let w:j5 ae.locals s.heap (s.heap.update ae.locals (gA x h (.str x r) a)):=p' ..;obtain⟨aD,an⟩:=J.top;let p:ae.locals∈eH ac:=by rw[an];simp[eH,J.own]
 let i:=k.hY ae.locals p af N;let bn:=l6 w N (Hp i);let o:=jB w;let T:(s.heap.update ae.locals (gA x h (.str x r) a)).get? ae.locals=I (gA x h (.str x r) a af):=qa _ N (vn G);let am:=(k.fm.mem p).1;obtain⟨f,ah⟩:=g.put O bn w aa as ax;show z _ #[#[k.sim.turn bn λag al B Q=>o ag B (λl=>g.off (l▸al)) Q,λy B Q=>o y B (λl=>by rw[l,am] at Q;cases Q) (k.dy y B Q),?_,k.apart,λy C B Q=>?_],#[#[[],(dS _).symm,λ_ z=>nomatch z],λy B Q C=>.inl (o y B (λl=>C (by rw[l];show .head _)) Q),λy B Q=>?_],λu av q=>ah u (λe ay aw l=>V0 aq (l▸av e ay aw)) q,j,j] f
 .show Hv k.fm λy C B Q ab=>?_;by_cases l:y=ae.locals
  .subst l;rw[N] at Q;obtain rfl:=bR Q;show#[_,T,Ye _ _ _ _ _ ab]
  .show#[B,o y B l Q,ab]
 .by_cases l:y=ae.locals
  .subst l;rw[T] at Q;obtain rfl:=bR Q;rw[(yo _ _ _ _ _).1];show i
  .show k.hY y C B (by rw[<-w.2 y l];show Q)
 .by_cases l:y=ae.locals
  .subst l;rw[N] at Q;obtain rfl:=bR Q;show#[_,T,(yo _ _ _ _ _).1]
  .show#[B,o y B l Q,j]
end
variable{iN:oZ}
def tT(T:bk)(i:Env):List ay->bj->bl->Flow->Prop:=λY h a f=>match a with
 |.next u=>f=.next/\br T.ai i u Y h
 |.ret v=>∃b,f=.ret b/\aP T.ai Y h v b
abbrev gH(T:bk)(r:iH)(M:List Env)(i:Env)(pr:List Str)(t:List ay)(s:a3)(v:Sem Flow)(q:bA bl):Prop:=cE (gC aZ T.w) r v (jw T M (kp T.ai i pr) t s (tT T i) q) (dN T M (kp T.ai i pr) t s q) s
section
variable(H:bk)(aB U:Nat)(c:b5)
def z_(a:Nat):Prop:=∀{A ac ae aj pr Y s D x},eA H aB U c A ac ae a->aO H ac Y D s->br H.ai ae aj Y s.heap->ex c a pr x aj D≠.ab->
 gH H A ac ae pr Y s (exec x ae) (ex c a pr x aj D)
def lm(a:Nat):Prop:=∀{A ac ae aj pr Y s D xs},eA H aB U c A ac ae a->aO H ac Y D s->br H.ai ae aj Y s.heap->eF c a pr xs aj D≠.ab->
 gH H A ac ae pr Y s (execs xs ae) (eF c a pr xs aj D)
end
section
variable{H:bk}{Z:ii H.ai}{pr:List Str}
def Ld{r:Sem aC}{d:aC->a3->Prop}{m:Mine.M aq}(k:aO H ac Y D s)(h:(m.G f) D≠.ab)
  (i:m D≠.ab->cE iN A r (d2 H ac Y s R (m D)) (fX H ac Y s (m D)) s)
  (O:∀E q x B V,m D=.ok E q->f E q≠.ab->df H ac Y s x q V->R x V.heap E B->(m.G f) D=f E q->d B V):
  cE iN A r d (dN H ac Z Y s ((m.G f) D)) s:=
 eb (aaF h i O) (λa a z=>z) λa a z=>z.wide k
def nr{r:Sem aC}{d:aC->a3->Prop}{m:Mine.M aq}(k:aO H ac Y D s)(u:dc=(m.G f) D)(h:dc≠.ab)
  (i:m D≠.ab->cE iN A r (d2 H ac Y s R (m D)) (fX H ac Y s (m D)) s)
  (O:∀E q x B V,bB H ac Z Y s x q V->df H ac Y s x q V->R x V.heap E B->dc=f E q->d B V):
  cE iN A r d (dN H ac Z Y s dc) s:=
 eb (fs u h i λE q x B V P=>O E q x B V (P.wide k) P) (λa a z=>z) λa a z=>z.wide k
def C6{r:Sem aC}{d:aC->a3->Prop}{m:Mine.M aq}(P:bB H ac Z Y s a0 bM ba)(u:dc=(m.G f) bM)(h:dc≠.ab)
  (i:m bM≠.ab->cE iN A r (d2 H ac a0 ba R (m bM)) (fX H ac a0 ba (m bM)) ba)
  (O:∀E v a B e,bB H ac Z Y s a v e->df H ac a0 ba a v e->R a e.heap E B->dc=f E v->d B e):
  cE iN A r d (dN H ac Z Y s dc) ba:=
 eb (nr P.aK u h i λE v a B e T=>O E v a B e (P.trans T)) (λb b z=>z) λb b z=>z.trans P
def A7{r:Sem Flow}{m q:bA bl}(Q:m=q)(P:lp H ac ae pr Y s a0 bM ba)(z:gH H A ac ae pr a0 ba r q):cE (gC aZ H.w) A r (jw H ac (kp H.ai ae pr) Y s (tT H ae) m) (dN H ac (kp H.ai ae pr) Y s m) ba:=Q▸du P z
theorem x6{r:Option aW}(v:jP e=L):swapsWith e r k ae=pure ak:=by cases e<;>first|rfl|show cY v
theorem ae2(w:dm H aB U c n)(J:eA H aB U c A ac ae n)(k:aO H ac Y D s)(g:br H.ai ae aj Y s.heap)(a:jP e=L){m:Mine.M bl}
  (v:m=(ev c n e aj).G λd=>M.N (.next aj))(h:m D≠.ab):
  gH H A ac ae pr Y s (exec (.Expr e pos) ae) (m D):=by
 show wpAny_Expr_any (nr k (congrFun v D) h (λz=>w J.at_ k g z) λE q x b V T r o f=>?_) ?_ (x6 a)
 .show#[.next aj,q,x,f,T,j,g.go k r]
 .unfold interactive;rw[J.at_.ok.kind];rfl
def ae7(w:dm H aB U c n)(J:eA H aB U c A ac ae n)(k:aO H ac Y D s)(g:br H.ai ae aj Y s.heap){m:Mine.M bl}
  (v:m=(ev c n e aj).G λB=>M.N (.ret B))(h:m D≠.ab):
  gH H A ac ae pr Y s (exec (.Return (I e) pos) ae) (m D):=
 wpAny_Return_some (nr k (congrFun v D) h (λz=>w J.at_ k g z) λE q x b V T r o f=> #[.ret E,q,x,f,T,b,j,o])
def ae8(k:aO H ac Y D s){m:Mine.M bl}(v:m=M.N (.ret .none)):
  gH H A ac ae pr Y s (exec (.Return au pos) ae) (m D):=
 wpAny_Return_none #[.ret .none,D,Y,congrFun v D,.refl k,.none,j,j]
theorem ae4{b:aW}{E y:List dF}(a:qn H aB U c n)(d:lm H aB U c n)(J:eA H aB U c A ac ae n)(k:aO H ac Y D s)(g:br H.ai ae aj Y s.heap){m:Mine.M bl}
  (v:m=(gP c n b aj).G λ|true=>eF c n pr E aj|false=>eF c n pr y aj)(h:m D≠.ab):
  gH H A ac ae pr Y s (exec (.If b E y pos) ae) (m D):=by
 show wpAny_If (nr k (congrFun v D) h (λz=>a J.at_ k g z) λl q x B V T r o f=>?_);obtain rfl:B=l:=o;obtain _|_:=B
 .show A7 f T (d J r.aK (g.go k r) (d5 f h))
 show A7 f T (d J r.aK (g.go k r) (d5 f h))
def ae5(w:dm H aB U c n)(J:eA H aB U c A ac ae n)(k:aO H ac Y D s)(g:br H.ai ae aj Y s.heap)(d:jP e=L)(i:iy pr x=L)(a:f6 c.sc x=L){m:Mine.M bl}
  (v:m=(ev c n e aj).G λB=>M.N (.next (put x B aj)))(h:m D≠.ab):
  gH H A ac ae pr Y s (exec (.Assign [.Name x p] e pos) ae) (m D):=
 wpAny_Assign_Name (nr k (congrFun v D) h (λz=>w J.at_ k g z) λu q l b V T r o f=>vD (pr:=pr) J r.aK (g.go k r) o i a λy t E=> #[.next _,q,l,f,T.trans t,j,E]) (x6 d)
def aeZ{O:aW}{E:Str}(bC:bC H c.C c.gt K)(w:dm H aB U c n)(J:eA H aB U c A ac ae n)(k:aO H ac Y D s)(g:br H.ai ae aj Y s.heap)(af:jP e=L){m:Mine.M bl}
  (v:m=(ev c n e aj).G λB=>(ev c n O aj).G λQ=>(oF Q E B).G λ_=>M.N (.next aj))(h:m D≠.ab):
  gH H A ac ae pr Y s (exec (.Assign [.Attribute O E p] e pos) ae) (m D):=by
 show plainObj_wpAny_Assign_Attribute (nr k (congrFun v D) h (λz=>w J.at_ k g z) λB ah x ao V T r o f=>?_) (x6 af);let q:=g.go k r;show C6 T f h (λz=>w J.at_ r.aK q z) λQ al a ap am hO t i d=>?_;show eb (aaJ (bf:=λ_ _=>False) bC.sB bC.nc t.aK i (o.go r.aK t) (jA (d5 d h))) (λ_ an aa=>?_) λ_ _ u=>u.elim;obtain⟨l,y,ag,b,P3,_⟩:=aa;show#[.next aj,y,ag,d.trans (he b),hO.trans (P3.wide t.aK),j,(q.go r.aK t).go t.aK P3]
def Ag(T:bk)(C:List O):Prop:=∀(ac:List Env)(Y:List ay)(s:a3)(D:aG)(A:iH)(bf:ar->a3->Prop)(o k e:V)(d8 lQ hn:ar),A.units+60<kB->aO T ac Y D s->aP T.ai Y s.heap o d8->aP T.ai Y s.heap k lQ->aP T.ai Y s.heap e hn->dd C o k e D≠.ab->
  bu T A (o7 d8 lQ hn) (d2 T ac Y s rU (dd C o k e D)) bf s
def ae9{d i:aW}(ao:Ag H c.C)(w:dm H aB U c n)(J:eA H aB U c A ac ae n)(k:aO H ac Y D s)(g:br H.ai ae aj Y s.heap)(an:jP e=L){m:Mine.M bl}
  (v:m=(ev c n e aj).G λB=>(ev c n d aj).G λQ=>(ev c n i aj).G λa=>(dd c.C Q a B).G λ_=>M.N (.next aj))(h:m D≠.ab):
  gH H A ac ae pr Y s (exec (.Assign [.Subscript d i p] e pos) ae) (m D):=by
 show wpAny_Assign_Subscript (nr k (congrFun v D) h (λz=>w J.at_ k g z) λB ar x az V T r o f=>?_) (x6 an);let q:=g.go k r;show C6 T f h (λz=>w J.at_ r.aK q z) λQ as aD aC aw hO t ag al=>?_;let E:=q.go r.aK t;show C6 hO al h (λz=>w J.at_ t.aK E z) λa av aE aA ax af P3 ah aa=>?_;show eb (ao _ _ _ _ _ (λ_ _=>False) _ _ _ _ _ _ J.at_.u P3.aK (ag.go t.aK P3) ah ((o.go r.aK t).go t.aK P3) (jA (d5 aa h))) (λ_ ay b=>?_) λ_ _ ap=>ap.elim;obtain⟨l,y,aq,am,O,_⟩:=b;show#[.next aj,y,aq,aa.trans (he am),af.trans (O.wide P3.aK),j,(E.go t.aK P3).go P3.aK O]
def Vl{B:V}(J:mS c.sc ae ac)(g:br H.ai ae aj Y s.heap)(T:aT x aj=I B)(G:jk x=L)(z:∀a,aP H.ai Y s.heap B a->cM a s):cE iN A (loadName ae x) cM bf s:=by
 obtain⟨m,v,i⟩:=g.names;obtain⟨p,a,f,q⟩|⟨p,C,a,U,_,E,q⟩:=i x B T
 .show ag1 J.kind p v f (z a q)
 .obtain p|p:=p
  .show agZ J.kind p U E (z a q)
  .show ag0 J.kind p U E (z a q) (x1 G).2
theorem ae0{E:Int}(w:dm H aB U c n)(J:eA H aB U c A ac ae n)(k:aO H ac Y D s)(g:br H.ai ae aj Y s.heap)(O:aT x aj=I ↑E)(C:jk x=L){m:Mine.M bl}
  (u:m=(ev c n e aj).G λ| ↑b=>(match iy pr x&&f6 c.sc x with|true=>M.N (.next (put x ↑(E+b) aj))|false=>M.ab)|_=>M.ab)(h:m D≠.ab):
  gH H A ac ae pr Y s (exec (.AugAssign (.Name x p) .Add e pos) ae) (m D):=by
 show wpAny_AugAssign_Name (Vl J.at_.ok g O C λa y=>?_);obtain⟨aa,rfl⟩:=y;show nr k (congrFun u D) h (λz=>w J.at_ k g z) λB q d ag V T r o f=>?_;cases B with
 |int b=>obtain⟨af,rfl⟩:=o;let l:=iu (b:=iy pr x&&f6 c.sc x) (x:=M.N (bl.next (put x ↑(E+b) aj))) f h;let bs:=cd l.1;show ahH (vD (s:={V with toks:=V.toks+1}) (pr:=pr) J r.aK (show br H.ai ae aj d V.heap from g.go k r) (v:= ↑(E+b)) #[_,j] bs.1 bs.2 λQ t i=> #[.next _,q,d,l.2,T.tok.trans t,j,i])
 |_=>cases h f
def aff(k:aO H ac Y D s)(g:br H.ai ae aj Y s.heap){m:Mine.M bl}(v:m=M.N (.next aj)):
  gH H A ac ae pr Y s (execs [] ae) (m D):=
 Nd #[.next aj,D,Y,congrFun v D,.refl k,j,g]
theorem afe{b:dF}{q:List dF}(w:z_ H aB U c n)(d:lm H aB U c n)(J:eA H aB U c A ac ae n)(k:aO H ac Y D s)(g:br H.ai ae aj Y s.heap){m:Mine.M bl}
  (i:m=(ex c n pr b aj).G λ|.next u=>eF c n pr q u|.ret v=>M.N (.ret v))(h:m D≠.ab):
  gH H A ac ae pr Y s (execs (b::q) ae) (m D):=by
 show wpAny_execs_cons (fs (congrFun i D) h (λz=>w J k g z) λE l x t V r o f=>?_);cases E with
 |next u=>obtain⟨rfl,e⟩:=o;show A7 f r (d J r.aK e (d5 f h))
 |ret v=>obtain⟨a,rfl,y⟩:=o;show#[.ret v,l,x,f,r,a,j,y]
end
variable{tb:List aW}{lA:ap}
section
variable{H:bk}{Z:ii H.ai}{pr:List Str}
theorem JQ{Q:ar}{zG:iH}(h:zG.frames=I ac)(N:ac=iW::pS)(B:iW.frame=I b6)(b:ae.frame=I b6)(k:aO H ac Y D s)(z:dN H ac Z Y s r Q aR):
  Ep iN zG ae (v5 iN A ae (dN H ac Z Y s r)) Q aR:=by
 show eb (x7 (bf:=v5 iN A ae (dN H ac Z Y s r)) h N B b k z) (λ_ e o=>?_) λ_ _ u=>u;let d:=o;obtain⟨y,g,E,m,f,rfl,P,J,T,rfl⟩:=o;obtain⟨v,c,O,n,V,U,G,p,x,w,t,C,q,a,aa,ab⟩:=J;show be (tt V G x ?_);rw[b];show eb (uj (I b6) k d) (λ_ af M=>M.hl λm i=>by obtain⟨l,rfl⟩:=i;show .inr #[iW,b6,by rw[N];rfl,B,j]) λ_ _ u=>u
theorem eA.Ph{Q:ar}(J:eA H aB U c A ac ae n)(k:aO H ac Y D s)(z:dN H ac Z Y s r Q aR):Ep iN A ae (v5 iN A ae (dN H ac Z Y s r)) Q aR:=by obtain⟨p,N⟩:=J.top;show JQ J.at_.frames N J.own J.own k z
theorem Wn{e:List Str}(z:qY tb=I e):∃T:List (Str×Pos),tb=T.map (λv=>.Name v.1 v.2)/\e=T.map (·.1):=by
 induction tb generalizing e with
 |nil=>show#[[],j,(bR z).symm]
 |cons r q w=>
  cases r with
  |Name u v=>
   let z:(match qY q with|some T=>I (u::T)|none=>au)=I e:=z;generalize qY q=a at z w;obtain _|g:=a
   .show db z
   obtain⟨T,f,d⟩:=w j;show#[(u,v)::T,aN _ f,(bR z).symm.trans (aN _ d)]
  |_=>show db z
section
variable{l:List (Str×Pos)}
theorem QK:(Ek (l.map λv=>.Name v.1 v.2) ae).map (·.2)=l.map λv=>Ej (.Name v.1 v.2) ae:=by
 induction l with
 |nil=>rfl
 |cons v l w=>show aN (zC _) w
theorem QJ:(Ek (l.map λv=>.Name v.1 v.2) ae).length=l.length:=by
 induction l with
 |nil=>rfl
 |cons v l w=>show aN j4 w
theorem QI:(Ek (l.map λv=>.Name v.1 v.2) ae).findIdx? (·.1)=au:=by
 induction l with
 |nil=>rfl
 |cons v l w=>split List.findIdx? _ ((ak,_)::Ek (l.map λv=>.Name v.1 v.2) ae)=au;rw[List.findIdx?_cons,w];rfl
theorem X'(z:putAll (l.map (·.1)) vs aj=I lA):l.length=vs.length:=by
 induction l generalizing vs aj with
 |nil=>cases vs with
  |nil=>rfl
  |cons _ _=>show db z
 |cons u e w=>cases vs with
  |nil=>show db z
  |cons B vs=>show aN j4 (w z)
theorem eA.Ig(J:eA H aB U c A ac ae n):ae.locals∈eH ac:=J.top.elim λp N=>by rw[N];simp[eH,J.own]
def LV(p:ae.locals∈eH ac)(k:aO H ac Y D s)(P:lp H ac ae pr Y s a0 c3 aR):cF s.heap aR.heap:=by
 show d1.J (λE b m N a=>?_) P.ext;obtain l|l:=d9.mp a
 .let T:E=ae.locals:=fC.mp l;have:=k.hY ae.locals p _ (T▸N);show Hp this j
 .show k.sim.rl E b m N l
theorem Og(J:eA H aB U c A ac ae n){d:Unit->a3->Prop}(i:sL pr c.sc (l.map (·.1))=L)(t:putAll (l.map (·.1)) vs aj=I lA)
  (k:aO H ac Y D s)(g:br H.ai ae aj Y s.heap)(y:bo H.ai Y s.heap vs fS)
  (z:∀E,lp H ac ae pr Y s Y D E->br H.ai ae lA Y E.heap->d bL E):cE iN A (assignInOrder (l.map λv=>Ej (.Name v.1 v.2) ae) fS) d bf s:=by
 induction l generalizing vs fS aj s with
 |nil=>
  obtain _|⟨_,_⟩:=vs
  .obtain rfl:=bR t;show cK (z s (.refl k) g)
  show db t
 |cons u e w=>
  obtain _|⟨B,vs⟩:=vs
  .show db t
  obtain⟨a,p,rfl,j,m⟩:=y;let i:=cd i;let f:=cd i.1;show be (iK (Ev (vD (pr:=pr) J k g j f.1 f.2 λE P q=>w i.2 t P.aK q (bo.aD (LV J.Ig k P) (cL.refl _) _ _ m) λo h b=>z o (P.trans h) b)))
end
theorem F0{r:aW}{B:V}{ag:ar}{M:Unit->a3->Prop}(aa:eA H aB U c A ac ae n)(m:A.handled=au)(k:aO H ac Y D s)(g:br H.ai ae aj Y s.heap)(ab:aP H.ai Y s.heap B ag)(C:hd pr c.sc r B aj=I lA)
  (z:∀E,lp H ac ae pr Y s Y D E->br H.ai ae lA Y E.heap->M bL E):bu H A (Ej r ae ag) M bf s:=by
 cases r with
 |Name u v=>have C:=od (b:=iy pr u&&f6 c.sc u) (a:=put u B aj) C;let f:=cd C.1;obtain rfl:=C.2;show Ev (vD (pr:=pr) aa k g ab f.1 f.2 z)
 |Tuple q p v=>
  let C:(match(generalizing:=false) qY q,B with|some e,.J O=>(match sL pr c.sc e with|true=>putAll e O aj|false=>au)|_,_=>au)=I lA:=C;rcases l:qY q with _|e
  .rw[l] at C;show db C
  rw[l] at C;cases B with
  |J O=>
   let C:(match sL pr c.sc e with|true=>putAll e O aj|false=>au)=I lA:=C;rcases i:sL pr c.sc e with _|_
   .rw[i] at C;show db C
   rw[i] at C;obtain⟨am,G,ao,rfl,T,af⟩:=ab;obtain⟨an,rfl,rfl⟩:=Wn l;show wpAny_assign_Tuple m #[_,T,j,_,j] (QJ.trans ((X' C).trans af.length.symm)) QI λN x=>?_;let al:∀y d,s.heap.get? y=I d->N.get? y=I d:=λy d Q=>x y d (λl=>by rw[l,oI] at Q;cases Q) Q;let o:df H ac Y s Y D {s with heap:=N}:=bB.keeps (t:=s.toks) k al;rw[QK];show Og (iN:=gC aZ H.w) (pr:=pr) (s:={s with heap:=N}) aa i C o.aK (g.go k o) (af.go k o) λE h ah=>z E ((o.wide k).trans h) ah
  |_=>show db C
 |_=>show db C
end
variable{aY:ay}{body:List dF}{eu:Nat->ap->Mine.M bl}{it:Nat->List ay->aG->bj->Prop}{aA:Nat}
inductive Ff(aY:ay)(h:bj):Prop
 |intro(o:Obj) (vs:Array ar) (T:String) (f:h.get? aY=I o) (a:o.data=.fields vs) (M:o.cls=.type T) (b:(["enumerate","zip","dict_itemiterator","dict_reverseitemiterator","odict_iterator","itertools.zip_longest","itertools.pairwise"]:List String).contains T=ak) (O:T≠"frame"/\T≠"tuple"):Ff aY h
structure f3(aY:ay)(Y:List ay)(ae:Env)(h:bj):Prop where
 off:aY∉Y
 ne:aY≠ae.locals
 b0:Ff aY h
inductive ju where
 |ab
 |fin
 |it (v:V)
structure Moved(aY:ay)(ae:Env)(h:bj)(Y:List ay)(b2:List ay)(aI:bj):Prop where
 vj:f3 aY b2 ae aI
 keep:∀b0,h.get? aY=I b0->aI.get? aY=I b0
 bn:cF h aI
 pre:cL Y b2
def rW(T:bk)(r:iH)(U:ar->a3->Prop)(j:Nat->List ay->aG->bj->Prop)(c:ay)(b i:Nat)(d:List ay)(p:aG)(s:a3):ju->Prop
 |.ab=>True
 |.fin=>∀cM:Option ar->a3->Prop,(∀aI,Heap.ExtBut c s.heap aI->cM au {s with heap:=aI})->bu T r (pyNext ⇑c) cM U s
 |.it v=>i<b/\∀cM:Option ar->a3->Prop,(∀a aI t,aP T.ai d s.heap v a->j (i+1) d p aI->j5 c s.heap aI->cM (I a) {s with heap:=aI,toks:=t})->bu T r (pyNext ⇑c) cM U s
structure kH(H:bk)(ae:Env)(r:Nat->aG->ju)(it:Nat->List ay->aG->bj->Prop)(aY:ay)(aA:Nat):Prop where
 own:∀i Y D h,it i Y D h->f3 aY Y ae h
 step:∀(A:iH)(bf:ar->a3->Prop)(ac:List Env)(i:Nat)(Y:List ay)(D:aG)(s:a3),A.handled=au->aO H ac Y D s->it i Y D s.heap->rW H A bf it aY aA i Y D s (r i D)
 go:∀i Y D h b2 c3 aI,(i=0->c3=D)->it i Y D h->Moved aY ae h Y b2 aI->it i b2 c3 aI
def qZ(q:ap->Mine.M bl):bl->Mine.M bl
 |.next aj=>q aj
 |.ret v=>M.N (.ret v)
def ly(f:V->ap->Mine.M bl)(q:ap->Mine.M bl)(Y:ap):ju->Mine.M bl
 |.ab=>M.ab
 |.fin=>M.N (.next Y)
 |.it v=>(f v Y).G (qZ q)
section
variable{H:bk}{Z:ii H.ai}{pr:List Str}
def W8{r:aW}{a:ar}{c:Unit->a3->Prop}(d:f3 aY Y ae s.heap)(z:c bL s):bu H A (letOwnedTupleGo r ⇑aY a) c bf s:=by
 obtain⟨e,O,T,f,o,M,b,_⟩:=d.b0;let x:bu H A (match(ago aY,a) with
  |(⇑q,⇑E)=>do
   let d<-load q
   match d.cls,d.data with
   |.type U,.fields O=>
    if(["enumerate","zip","dict_itemiterator","dict_reverseitemiterator","odict_iterator","itertools.zip_longest","itertools.pairwise"]:List String).contains U&&O[0]? ==I (o6 E) then
     rule "for.unpacks-the-owned-tuple"
     updateField q 0 .none
   |_,_=>pure bL
  |_=>pure bL) c bf s:=by
  cases a<;>first|show cK z|skip
  show be (wpAny_load f ?_);rw[o,M];dsimp only;rw[b];show cK z
 cases r<;>first|show cK z|show x
theorem bB.iter(k:aO H ac Y D s)(P:bB H ac Z Y s a0 c3 aR)(v:s.heap.get? aY=au)(d:f3 aY a0 ae aR.heap)(p:∀y z,y≠aY->aR.heap.get? y=I z->fL.get? y=I z):
  bB H ac Z Y s a0 c3 {aR with heap:=fL,toks:=t}:=by
 obtain⟨z,O,T,bJ,bZ,_⟩:=d.b0;show bB.tok (bB.near (ex:=[aY]) k P (λy B Q C=>?_) λy C=>?_)
 .have:=p y B (by simpa using C) Q;show#[#[B.slots,this],λa=>this]
 .rw[fC.mp C];show#[v,λB Q=>by rw[bJ] at Q;injections Q;show#[O,bZ]]
theorem f3.near(d:f3 aY Y ae s.heap)(g:br H.ai ae aj Y s.heap)(a:∀y∈eH ac,∀d,s.heap.get? y=I d->d.cls=.type "frame")(p:∀y z,y≠aY->s.heap.get? y=I z->fL.get? y=I z):br H.ai ae aj Y fL:=by
 obtain⟨z,O,T,bJ,bZ,eT,b,c⟩:=d.b0;show g.near (cC:=eH ac) (ex:=[aY]) (λy B Q C=>?_) #[λy C B Q=>?_,a]
 .have:=p y B (by simpa using C) Q;show#[#[B.slots,this],λe=>this]
 .rw[fC.mp C,bJ] at Q
  injections Q
  show#[O,bZ]
inductive Fa(H:bk)(ac:List Env)(ae:Env)(pr:List Str)(Y:List ay)(s:a3)(eu:Nat->ap->Mine.M bl)(it:Nat->List ay->aG->bj->Prop)(aA:Nat)(a:bA bl)(k:Nat)(aR:a3):Prop
 |intro(i:Nat) (lA:ap) (c3:aG) (b2:List ay) (dh:i<=aA) (O:k=aA-i) (x:a=eu i lA c3) (P:lp H ac ae pr Y s b2 c3 aR) (b6:br H.ai ae lA b2 aR.heap) (f:it i b2 c3 aR.heap):Fa H ac ae pr Y s eu it aA a k aR
theorem f3.go(o:f3 aY Y ae s.heap)(P:lp H ac ae pr Y s a0 c3 aR)(bn:cF s.heap aR.heap):Moved aY ae s.heap Y a0 aR.heap:=by
 obtain⟨z,a,T,bJ,bZ,eT,b,O,g⟩:=o.b0;let p:aR.heap.get? aY=I z:=(P.ext.keep aY z bJ (by
  simp only[kp,afr,gm,not_or];show#[o.ne,o.off])).of (by rw[eT];intro l;show O (by injections l<;>rfl))
 show#[#[λl=>?_,o.ne,z,a,T,p,bZ,eT,b,O,g],λe Q=>by rw[bJ] at Q;injections Q;show p,bn,P.ext.pr];obtain⟨d,rfl,c⟩:=P.ext.pre;obtain l|l:=d9.mp l
 .show o.off l
 .rw[c aY l] at bJ;cases bJ
theorem Ji{am:aW}{r:Nat->aG->ju}(aU:c.aM=ak)(aX:lm H aB U c n)
  (IO:kH H ae r it aY aA)(fH:∀i aj D,eu i aj D=ly (λB aj=>(M.opt (hd pr c.sc am B aj)).G λu=>eF c n pr body u) (eu (i+1)) aj (r i D) D)
  (J:eA H aB U c A ac ae n)(k:aO H ac Y D s)(v:s.heap.get? aY=au)(P:lp H ac ae pr Y s a0 bM ba)(az:br H.ai ae aj a0 ba.heap)(aL:it 0 a0 bM ba.heap)(af:eu 0 aj bM≠.ab):
  tr (gC aZ H.w) A (.forLoop am ⇑aY body [] ae) (λa3 E=>match a3 with|.ok f=>Ab H ac ae pr Y s (tT H ae) (eu 0 aj bM) f E|.error e=>v5 (gC aZ H.w) A ae (wy H ac ae pr Y s (eu 0 aj bM)) e E) ba:=by
 let m:=J.at_.handled aU;let aV:=J.Ig;generalize aI:eu 0 aj bM=a at af|-;show codeAny_forLoop_any (Fa H ac ae pr Y s eu it aA a) (λp E aQ=>?_) aA #[0,aj,bM,a0,ff _,j,aI.symm,P,az,aL];obtain⟨i,u,aa,g,bc,rfl,x,h,q,ap⟩:=aQ;let Q:=IO.own i g aa _ ap;obtain⟨bd,be,TI,aR,a',aS,bb,aT⟩:=Q.b0;let T:=IO.step A (Ep (gC aZ H.w) A ae λe E=>v5 (gC aZ H.w) A ae (wy H ac ae pr Y s a) e E) ac i g aa E m h.aK ap;rw[fH] at x;generalize r i aa=a_ at T x;cases a_ with
 |ab=>cases af x
 |fin=>show T _ λN T=>?_;show Nd ?_;let p:∀y z,y≠aY->E.heap.get? y=I z->N.get? y=I z:=λy z C e=>T y z C e;show#[.next u,aa,g,x,bB.iter (t:=E.toks) k h v Q p,j,Q.near q h.aK.hY p]
 |it B=>
  show T.2 _ λa8 N V a4 aq as=>?_;let p:∀y z,y≠aY->E.heap.get? y=I z->N.get? y=I z:=jB as;let ag:=bB.iter (t:=V) k h v Q p;let aC:=Q.near q h.aK.hY p;let a5:aP H.ai g N B a8:=aP.aD (l6 as aR (by rw[aS];intro l;show aT.2 (by injections l<;>rfl))) (cL.refl _) _ _ a4;let av:=IO.own (i+1) g aa _ aq;show W8 (s:={E with heap:=N,toks:=V}) av ?_;rcases C:hd pr c.sc am B u with _|a1
  .cases af (x.trans (aN (λd=>(((M.opt d).G λu=>eF c n pr body u).G (qZ (eu (i+1)))) aa) C))
  let al:a=((eF c n pr body a1).G (qZ (eu (i+1)))) aa:=x.trans (aN (λd=>(((M.opt d).G λu=>eF c n pr body u).G (qZ (eu (i+1)))) aa) C);show F0 (pr:=pr) (s:={E with heap:=N,toks:=V}) J m ag.aK aC a5 C λa7 P3 aE=>?_;let ah:=ag.trans P3;show eb (aX (s:=a7) J P3.aK aE (jA (al▸af))) (λf aw b=>?_) λe aw b=>?_
  .obtain⟨aH,ax,ay,aJ,O,ao⟩:=b;let ar:=al.trans (he aJ);cases aH with
   |next a2=>obtain⟨rfl,aF⟩:=ao;let an:=P3.trans O;show#[aA-(i+1),afL T.1 (zc i),i+1,a2,ax,ay,T.1,j,ar,ah.trans O,aF,IO.go _ _ _ _ _ _ _ (λl=>nomatch l) aq (av.go an (LV aV ag.aK an))]
   |ret a9=>obtain⟨o,rfl,a6⟩:=ao;show#[.ret a9,ax,ay,ar,ah.trans O,o,j,a6]
  .have:wy H ac ae pr Y s a e aw:=by
    rw[al];show(b.trans ah).G
   show J.Ph k this
end
section
variable{H:bk}{f:V->ap->Mine.M bl}{r:ap->Mine.M bl}{m i:Nat}
def CE{T:String}{O:Array ar}(f:aY∉Y)(a:aY≠ae.locals)(Q:h.get? aY=I o)(G:o.data=.fields O)(U:o.cls=.type T)(A:(["enumerate","zip","dict_itemiterator","dict_reverseitemiterator","odict_iterator","itertools.zip_longest","itertools.pairwise"]:List String).contains T=ak/\T≠"frame"/\T≠"tuple"):f3 aY Y ae h:= #[f,a,o,O,T,Q,G,U,A.1,A.2]
def ox:Option V->ju
 |some v=>.it v
 |none=>.fin
theorem JZ{P:List V->ju->Prop}(O:List V)(i:Nat)(u:P [] .fin)(f:∀B,P (B::O.drop (i+1)) (.it B)):P (O.drop i) (ox O[i]?):=by
 induction O generalizing i with
 |nil=>rw[Nl];show u
 |cons B q w=>show match i with
  |0=>f B
  |i+1=>w i f
def Jk{B:aq}(z:l[i]?=I B):i<l.length:=(c5.mp z).1
def I1{E:Array ar}(c:l.length=E.toList.length)(a:l[i]?=au):E[i]?=au:=by rw[<-DX,y6,<-c];show y6.mp a
def Jh(O:List V):jM f (O.drop i) aj D=ly f (λaj=>jM f (O.drop (i+1)) aj) aj (ox O[i]?) D:=JZ (P:=λT u=>jM f T aj D=ly f (λaj=>jM f (O.drop (i+1)) aj) aj u D) O i j λa=>j
def CD{T:String}{O:Array ar}(Q:f3 aY Y ae h)(u:∃d,aI.get? aY=I d/\d.cls=.type T/\d.data=.fields O)(A:(["enumerate","zip","dict_itemiterator","dict_reverseitemiterator","odict_iterator","itertools.zip_longest","itertools.pairwise"]:List String).contains T=ak/\T≠"frame"/\T≠"tuple"):f3 aY Y ae aI:=u.elim λd u=> #[Q.off,Q.ne,d,O,T,u.1,u.2.2,u.2.1,A.1,A.2]
def xE{P:Obj->Prop}(M:Moved aY ae h Y a0 aI)(u:∃d,h.get? aY=I d/\P d):∃d,aI.get? aY=I d/\P d:=u.elim λd u=> #[d,M.keep d u.1,u.2]
inductive z2(H:bk)(ae:Env)(aY:ay)(vs:List V)(i:Nat)(Y:List ay)(D:aG)(h:bj):Prop
 |mk (Q:f3 aY Y ae h) (t:ay) (xs:Array ar) (m:Nat) (f:h.IsTupleIter aY t i) (A:IsT h t xs m) (g:bo H.ai Y h vs xs.toList):z2 H ae aY vs i Y D h
theorem Iy(O:List V):kH H ae (λi J=>ox O[i]?) (z2 H ae aY O) aY O.length:=by
 show#[λi t p z u=>?_,λx U C i t p D v k u=>?_,λi t p z G E N J u M=>?_]
 .cases u;assumption
 .obtain⟨Q,r,e,m,f,A,g⟩:=u;rcases l:O[i]? with _|B
  .show λd q=>wpAny_pyNext_tuple_end v f #[_,A,j,_,j] (I1 g.length.symm l) λN T=>q N T
  obtain⟨a,w,y⟩:=g.get l;show#[(Jk l),λd q=>wpAny_pyNext_tuple_item f #[_,A,j,_,j] (DX.symm.trans w) λN h c=>?_];obtain⟨s,_,_,b,_,n,_,_,o⟩:=Q.b0;let bn:=l6 c b (by rw[n];intro l;show o (by injections l<;>rfl));show q a N D.toks y #[CD Q h (),r,e,m,h,bn _ _ _ A,bo.aD bn (cL.refl _) _ _ g] c
 .obtain⟨Q,r,e,m,f,A,g⟩:=u;show#[M.vj,r,e,m,xE M f,M.bn _ _ _ A,bo.aD M.bn M.pre _ _ g]
inductive z1(ae:Env)(aY:ay)(k:Nat)(i:Nat)(Y:List ay)(D:aG)(h:bj):Prop
 |mk (Q:f3 aY Y ae h) (n:i<=k) (f:IsRangeIter h aY (i:Int) ((k:Int)-i) 1):z1 ae aY k i Y D h
set_option tactic.hygienic true in
theorem aee{p:Int}:(lO p)[i]?=if i<p.toNat then I (V.int (rJ i)) else au:=by
 unfold lO;rw[rt];split
 .rename_i z;rw[afh z];rfl
 .rename_i z;rw[List.getElem?_eq_none (by simpa using vT.mp z)];rfl
def abS(p i:Nat):(p:Int)-i-1=(p:Int)-((i+1:Nat):Int):=Int.sub_sub ..
def Ix(p:Int):kH H ae (λi e=>ox (lO p)[i]?) (z1 ae aY p.toNat) aY p.toNat:=by
 show#[λi t a z u=>?_,λr U b i t a D m k u=>?_,λi t a z g y N e u M=>?_]
 .cases u;assumption
 .obtain⟨Q,n,f⟩:=u;rw[aee];by_cases l:i<p.toNat
  .rw[aL l];show#[l,λd q=>wpAny_pyNext_range_item f (Int.sub_pos_of_lt (tv.mpr l)) λN h c=>q _ N _ #[_,j] #[CE Q.off Q.ne h j j (),l,OU (ot:=λu=>IsRangeIter N aY ((i:Int)+1) u 1) (abS p.toNat i) h] c]
  .rw[aS l];show λd q=>wpAny_pyNext_range_end m f () λN T=>q N T
 .obtain⟨Q,n,f⟩:=u;show#[M.vj,n,M.keep _ f]
def q2(k i:Nat):Option O->ju
 |some (.list vs)=>match k with
  |0=>match b' vs.length i with
   |true=>.fin
   |false=>.ab
  |_+1=>ox vs[i]?
 |_=>.ab
theorem VH:jL f m k i aj D=ly f (λaj=>jL f m (afK k) (i+1) aj) aj (q2 k i D[m]?) D:=by
 obtain _|k:=k
 .split (match D[m]? with
   |some (.list O)=>match b' O.length i with
    |true=>M.N (.next aj)
    |false=>M.ab
   |_=>M.ab:Mine.M bl) D=ly f (λaj=>jL f m 0 (i+1) aj) aj (q2 0 i D[m]?) D
  generalize D[m]?=d;obtain _|d:=d
  .rfl
  cases d with
   |list O=>split (match b' O.length i with|true=>M.N (.next aj)|false=>M.ab:Mine.M bl) D=ly f (λaj=>jL f m 0 (i+1) aj) aj (match b' O.length i with|true=>.fin|false=>.ab) D;cases b' O.length i<;>rfl
   |_=>rfl
 split (match D[m]? with
  |some (.list O)=>match O[i]? with
   |some B=>(f B aj).G λ
    |.next u=>jL f m k (i+1) u
    |.ret B=>M.N (.ret B)
   |none=>M.N (.next aj)
  |_=>M.ab:Mine.M bl) D=ly f (λaj=>jL f m k (i+1) aj) aj (q2 (k+1) i D[m]?) D
 generalize D[m]?=d;obtain _|d:=d
 .rfl
 cases d with
  |list O=>
   split (match O[i]? with
   |some B=>(f B aj).G λ
    |.next u=>jL f m k (i+1) u
    |.ret B=>M.N (.ret B)
   |none=>M.N (.next aj):Mine.M bl) D=ly f (λaj=>jL f m k (i+1) aj) aj (ox O[i]?) D
   cases O[i]? <;>rfl
  |_=>rfl
inductive rQ(ae:Env)(aY:ay)(m:Nat)(i:Nat)(Y:List ay)(D:aG)(h:bj):Prop
 |mk (Q:f3 aY Y ae h) (a:ay) (A:Y[m]?=I a) (f:h.IsListIter aY a i):rQ ae aY m i Y D h
theorem Iw(m b:Nat):kH H ae (λi p=>q2 (b-i) i p[m]?) (rQ ae aY m) aY b:=by
 show#[λi t p z u=>?_,λr U C i t p D n k u=>?_,λi t p z Y V N _ u M=>?_]
 .cases u;assumption
 .obtain⟨Q,E,A,f⟩:=u;rcases b7:p[m]? with _|w
  .trivial
  cases w with
  |list O=>
   obtain⟨x,s,e,J,T,g⟩:=k.sim.rep m _ b7;obtain rfl:=bR (A.symm.trans s);let j:O[i]?=au->rW H r U (rQ ae aY m) aY b i t p D .fin:=λl d q=>wpAny_pyNext_list_end n f (oY T) (I1 g.length.symm l) λN T=>q N T;rcases o:b-i with _|G
   .split rW H r U (rQ ae aY m) aY b i t p D (match b' O.length i with|true=>.fin|false=>.ab);rcases l:b' O.length i with _|_
    .trivial
    show j (y6.mpr (cc l))
   split rW H r U (rQ ae aY m) aY b i t p D (ox O[i]?);rcases l:O[i]? with _|B
   .show j l
   show#[Nat.lt_of_sub_eq_succ o,λd q=>?_];obtain⟨a,v,y⟩:=g.get l;show wpAny_pyNext_list_item f (oY T) (DX.symm.trans v) λN h c=>q a N D.toks y #[CD Q h (),E,A,h] c
  |_=>trivial
 .obtain⟨Q,E,A,f⟩:=u;show#[M.vj,E,M.pre m E A,xE M f]
def vg:Option Int->ju
 |some k=>.it ↑k
 |none=>.fin
def JY(H:List Int)(i:Nat):Option O->ju
 |some (.id es)=>match↥(es.map (λp:Int×V=>p.1)=H) with
  |true=>vg H[i]?
  |false=>.ab
 |_=>.ab
theorem WM{P:List Int->ju->Prop}(H:List Int)(i:Nat)(u:P [] .fin)(f:∀B,P (B::H.drop (i+1)) (.it ↑B)):P (H.drop i) (vg H[i]?):=by
 induction H generalizing i with
 |nil=>rw[Nl];show u
 |cons B q w=>show match i with
  |0=>f B
  |i+1=>w i f
def VF(f:V->ap->Mine.M bl)(m:Nat)(H l:List Int)(Y:ap):Option O->Mine.M bl
 |some (.id es)=>match↥(es.map (λp:Int×V=>p.1)=H) with
  |true=>match l with
   |[]=>M.N (.next Y)
   |k::r=>(f ↑k Y).G (qZ λY=>ji f m H r Y)
  |false=>M.ab
 |_=>M.ab
theorem VE{H T:List Int}:ji f m H T aj D=VF f m H T aj D[m]? D:=by
 obtain _|⟨p,q⟩:=T
 .split (match D[m]? with
   |some (.id b)=>match↥(b.map (λv:Int×V=>v.1)=H) with
    |true=>M.N (.next aj)
    |false=>M.ab
   |_=>M.ab:Mine.M bl) D=_
  generalize D[m]?=d;obtain _|d:=d
  .rfl
  cases d<;>rfl
 split (match D[m]? with
  |some (.id b)=>match↥(b.map (λv:Int×V=>v.1)=H) with
   |true=>(f ↑p aj).G λ
    |.next u=>ji f m H q u
    |.ret B=>M.N (.ret B)
   |false=>M.ab
  |_=>M.ab:Mine.M bl) D=_
 generalize D[m]?=d;obtain _|d:=d
 .rfl
 cases d<;>rfl
theorem VD(H:List Int):ji f m H (H.drop i) aj D=ly f (λaj=>ji f m H (H.drop (i+1)) aj) aj (JY H i D[m]?) D:=by
 show VE.trans ?_;generalize D[m]?=d;obtain _|d:=d
 .rfl
 cases d with
  |id b=>
   split (match↥(b.map (λv:Int×V=>v.1)=H) with
    |true=>match H.drop i with
     |[]=>M.N (.next aj)
     |p::q=>(f ↑p aj).G (qZ λaj=>ji f m H q aj)
    |false=>M.ab:Mine.M bl) D=ly f (λaj=>ji f m H (H.drop (i+1)) aj) aj (match↥(b.map (λv:Int×V=>v.1)=H) with|true=>vg H[i]? |false=>.ab) D
   obtain _|_:= ↥(b.map (λv:Int×V=>v.1)=H)
   .rfl
   show WM (P:=λT u=>(match T with
    |[]=>M.N (.next aj)
    |p::q=>(f ↑p aj).G (qZ λaj=>ji f m H q aj):Mine.M bl) D=ly f (λaj=>ji f m H (H.drop (i+1)) aj) aj u D) H i j λa=>j
  |_=>rfl
inductive wm(ae:Env)(aY:ay)(m:Nat)(aA:Nat)(i:Nat)(Y:List ay)(D:aG)(h:bj):Prop
 |mk (Q:f3 aY Y ae h) (a:ay) (A:Y[m]?=I a) (f:h.IsKeyIter aY a i aA aA):wm ae aY m aA i Y D h
def TS{p:Int}(z:MS p key=L):∃r,key=.int p r:=by
 cases key<;>first|(cases z)|skip
 show#[_,by rw[show p=_ from(eq_of_beq z).symm]]
theorem TX(m:Nat)(w:List Int):kH H ae (λi p=>JY w i p[m]?) (wm ae aY m w.length) aY w.length:=by
 show#[λi t p z u=>?_,λr U Y i t p D J k u=>?_,λi t p z g y N _ u M=>?_]
 .cases u;assumption
 .obtain⟨Q,E,A,f⟩:=u;rcases b7:p[m]? with _|O
  .trivial
  cases O with
  |id b=>
   split rW H r U (wm ae aY m w.length) aY w.length i t p D (match↥(b.map (λv:Int×V=>v.1)=w) with|true=>vg w[i]? |false=>.ab);rcases o: ↥(b.map (λv:Int×V=>v.1)=w) with _|_
   .trivial
   obtain⟨l,s,n,G,x⟩:=k.sim.rep m _ b7;obtain rfl:=bR (A.symm.trans s);let j:n.map (·.1)=w:=(CX x).trans (bS o);subst j;rw[fU] at f;split rW H r U (wm ae aY m (n.map (·.1)).length) aY (n.map (·.1)).length i t p D (vg (n.map (·.1))[i]?);rw[rt,fU];rcases B:n[i]? with _|v
   .show λd q=>ag8 J f G B λN T=>q N T
   obtain⟨aa,a⟩:=v;show#[Jk B,λd q=>wpAny_pyNext_dict_item f G B λC N e h c=>q C N D.toks (TS e) #[CD Q h (),E,A,h] c]
  |_=>trivial
 .obtain⟨Q,E,A,f⟩:=u;show#[M.vj,E,M.pre m E A,xE M f]
inductive E6(H:bk)(ae:Env)(aY:ay)(m:Nat)(i:Nat)(Y:List ay)(D:aG)(h:bj):Prop
 |mk (dh:i=0) (Q:f3 aY Y ae h) (b7:D[m]?=I (.aX [])) (a:ay) (A:Y[m]?=I a) (f:h.IsKeyIter aY a 0 0 0):E6 H ae aY m i Y D h
theorem TY(m:Nat):kH H ae (λe e=>.fin) (E6 H ae aY m) aY 0:=by
 show#[λi t p z u=>?_,λr U c i t p D a k u=>?_,λi t p z g y N Q u M=>?_]
 .cases u;assumption
 .obtain⟨J,b,b7,E,A,f⟩:=u;obtain⟨l,s,kvs,G,x,Q⟩:=k.sim.rep m _ b7;obtain rfl:=bR (A.symm.trans s);show λd q=>ag8 (kvs:=[]) a f (Q j) j λN T=>q N T
 .obtain⟨J,b,b7,E,A,f⟩:=u;show#[J,M.vj,Q J▸b7,E,M.pre m E A,xE M f]
end
variable{g:List V->Mine.M bb}{W:bA aq->Prop}
section
variable{H:bk}{Z:ii H.ai}{pr:List Str}{f:V->ap->Mine.M bl}
theorem Bc{q:aW}(z:gK q=L)(u:ar):agI q ae u=pure u:=by cases q<;>first|rfl|show cY z
theorem Zk{P:aW->Prop}(y:∀v l,P (.Call (.Name "range" v) [e] [] l))(q:aW)(z:i1 q=I e):P q:=by
 cases q with
 |Call t G H l=>
  cases t with
  |Name u v=>
   obtain _|⟨E,_|_⟩:=G
   .show db z
   .obtain _|_:=H
    .let z:(match b_ u "range" with|true=>I E|false=>au)=I e:=z;let z:=od z;show z.2▸gx.mp z.1▸y v l
    .show db z
   .show db z
  |_=>show db z
 |_=>show db z
def KA{q:aW}(z:i1 q=I e):∃v l,q=.Call (.Name "range" v) [e] [] l:=Zk (P:=λi=>∃v l,i=.Call (.Name "range" v) [e] [] l) (λv l=> #[v,l,j]) q z
theorem Be(p:∀y d,h.get? y=I d->aI.get? y=I d):h.get? aI.objs.size=au:=by
 rcases l:h.get? aI.objs.size with _|d
 .rfl
 cases(hp _) (vW (p _ _ l))
theorem aa8(p:Int):ahN 0 p 1=(p.toNat:Int):=by
 rw[rangeSize_one];by_cases z:0<p
 .rw[aL z,v' (iJ z)];show ahl p
 .rw[aS z,Int.toNat_of_nonpos (rI.mp z)];rfl
def vw(U:Nat):Obj:={cls:=.type "range_iterator",data:=.fields (gn [o6 0,o6 U,o6 1])}
inductive Fo(v:V):Prop
 |mk (k:Int) (e:v= ↑k) (bs: -1000000<k) (eJ:k<1000000) (u:eW v=M.N (lO k)):Fo v
theorem Zi{B:V}(z:((eW B).G g) D≠.ab):Fo B:=by
 cases B with
 |int p=>
  let Q:eW ↑p=(match↥(-1000000<p)&& ↥(p<1000000) with|true=>M.N (lO p)|false=>M.ab):=j;rcases a: ↥(-1000000<p)&& ↥(p<1000000) with _|_
  .rw[a] at Q;rw[Q] at z;cases z j
  rw[a] at Q;show#[p,j,bS (dj.mp a).1,bS (dj.mp a).2,Q]
 |_=>cases z j
theorem u6(m:Mine.M aq)(t:aq->Mine.M aC)(s:aC->Mine.M bb):(m.G t).G s=m.G λE=>(t E).G s:=by funext p;unfold M.G;cases m p<;>rfl
inductive Fn(H:bk)(ac:List Env)(Y:List ay)(s:a3)(r:bA (List V))(k:Int)(bM:aG)(a0:List ay)(ba:a3)(aI:bj):Prop
 |mk (f:r=.ok (lO k) bM) (P:df H ac Y s a0 bM ba) (O:∀b o,ba.heap.get? b=I o->aI.get? b=I o) (C:k.toNat<=4000000):Fn H ac Y s r k bM a0 ba aI
theorem KD{l:Pos}(bC:bC H c.C c.gt K)(w:dm H aB U c n)(J:dC H aB U c A ac ae n)(k:aO H ac Y D s)(v:br H.ai ae aj Y s.heap)(O:eU c aj "range"=L)
  (j:fo [e]=L){t:bA bb}(u:(((ev c n e aj).G eW).G g) D=t)(h:t≠.ab)
  (z:∀(m:Int)(q:aG)(x:List ay)(V:a3)(N:bj)(r:Nat),Fn H ac Y s (((ev c n e aj).G eW) D) m q x V N->t=g (lO m) q->cM ⇑N.objs.size {V with heap:=N.push (vw m.toNat),toks:=r}):
  bu H A (eval (.Call (.Name "range" p) [e] [] l) ae) (λaa V=>bu H A (Er aa) cM (dN H ac Z Y s t) V) (dN H ac Z Y s t) s:=by
 show t7 j (λb Q=>n4 bC.gl.base J.ok k (so O) (bC.np _ (.tail _ (.tail _ (.tail _ (.tail _ (.tail _ (.head _))))))) bC.F7 Q) ?_;rw[vC (cd j).1];rw[u6] at u;subst u;show zi (Ld k h (λz=>w J k v z) λB q x a V M T E o f=>?_);show D' ?_;obtain⟨m,rfl,bs,i,u⟩:=Zi T;obtain⟨r,rfl⟩:=(show∃r,a=.int m r from o);show call_range_1 (wpAny_pyIter_range (IsRange.new _ _ _ _ _ _ _) (small_one () () (fg () (iJ bs)) (zB i ())) ?_);rw[aa8];show z m q x V _ _ #[(he M).trans (congrFun u q),E,λy d e=>i9 _ e,Ng.mpr (fg (iJ i) ())] (f.trans (he (congrFun u q)))
theorem bB.made(k:aO H ac Y D s)(P:df H ac Y s a0 bM ba)(p:∀y d,ba.heap.get? y=I d->fL.get? y=I d):lp H ac ae pr Y s a0 bM {ba with heap:=fL,toks:=t}:=(P.trans (bB.keeps (t:=t) P.aK p)).wide k
def Hr{T:String}{O:Array ar}(k:aO H ac Y D s)(g:br H.ai ae aj Y s.heap)(v:s.heap.get? a=au)(Q:fL.get? a=I {cls:=.type T,data:=.fields O})
  (A:(["enumerate","zip","dict_itemiterator","dict_reverseitemiterator","odict_iterator","itertools.zip_longest","itertools.pairwise"]:List String).contains T=ak/\T≠"frame"/\T≠"tuple"):f3 a Y ae fL:=by
 show CE (λl=>?_) (λl=>?_) Q j j A
 .obtain⟨z,f,_⟩:=k.sim.mut l;rw[v] at f;cases f
 .obtain⟨m,⟨d,_,_,N,_⟩,_⟩:=g.names;rw[<-l,v] at N;cases N
def JM(P:bB H ac Z Y s a0 bM ba)(z:ba.heap.get? a=au):s.heap.get? a=au:=qx P z
def EV(T:bk)(M:List Env)(i:Env)(pr:List Str)(t:List ay)(s:a3)(r:iH)(q:bA bl):Except ar Flow->a3->Prop:=λx aR=>match x with
 |.ok f=>Ab T M i pr t s (tT T i) q f aR
 |.error e=>v5 (gC aZ T.w) r i (wy T M i pr t s q) e aR
def jd(g:b5)(U:Nat)(pr:List Str)(r:aW)(x:List dF):V->ap->Mine.M bl:=λv aj=>(M.opt (hd pr g.sc r v aj)).G λlA=>eF g U pr x lA
def qC(f:V->ap->Mine.M bl)(i:Nat)(Y:ap):Option O->Mine.M bl
 |some (.list vs)=>jL f i vs.length 0 Y
 |some (.id es)=>ji f i (es.map (·.1)) (es.map (·.1)) Y
 |some (.aX [])=>M.N (.next Y)
 |_=>M.ab
def Hl(f:V->ap->Mine.M bl)(Y:ap):V->Mine.M bl
 |.J vs=>jM f vs Y
 | ⇑i=>M.get λD=>qC f i Y D[i]?
 |_=>M.ab
def Ho(g:b5)(U:Nat)(f:V->ap->Mine.M bl)(Y:ap)(Q:aW):Mine.M bl:=match eU g Y "range"&&fo [Q] with
 |true=>((ev g U Q Y).G eW).G λm=>jM f m Y
 |false=>M.ab
def Hn(g:b5)(U:Nat)(f:V->ap->Mine.M bl)(Y:ap)(q:aW):Mine.M bl:=match gK q with
 |false=>M.ab
 |true=>(ev g U q Y).G (Hl f Y)
def RU(g:b5)(U:Nat)(f:V->ap->Mine.M bl)(Y:ap)(q:aW):Option aW->Mine.M bl
 |some e=>Ho g U f Y e
 |none=>Hn g U f Y q
def Hm(g:b5)(U:Nat)(f:V->ap->Mine.M bl)(Y:ap)(q:aW):Mine.M bl:=RU g U f Y q (i1 q)
def W0{m:Mine.M aq}(h:(match b with|true=>m|false=>M.ab) D≠.ab)(z:b=L->m D≠.ab->W (m D)):W ((match b with|true=>m|false=>M.ab) D):=by
 obtain _|_:=b
 .cases h j
 show z j h
def WZ{m:Mine.M aq}(h:(match b with|false=>M.ab|true=>m) D≠.ab)(z:b=L->m D≠.ab->W (m D)):W ((match b with|false=>M.ab|true=>m) D):=by
 obtain _|_:=b
 .cases h j
 show z j h
section
variable{t iter:aW}
def xg{r:Nat->aG->ju}{T:String}{O:Array ar}(G:c.aM=ak)(d:lm H aB U c n)(J:eA H aB U c A ac ae n)(k:aO H ac Y D s)(g:br H.ai ae aj Y s.heap)(P:df H ac Y s a0 bM ba)
  (b:(["enumerate","zip","dict_itemiterator","dict_reverseitemiterator","odict_iterator","itertools.zip_longest","itertools.pairwise"]:List String).contains T=ak/\T≠"frame"/\T≠"tuple")
  (IO:kH H ae r it ba.heap.objs.size aA)(fH:∀i aj D,eu i aj D=ly (jd c n pr t body) (eu (i+1)) aj (r i D) D)
  (u:f3 ba.heap.objs.size a0 ae (ba.heap.push {cls:=.type T,data:=.fields O})->(ba.heap.push {cls:=.type T,data:=.fields O}).get? ba.heap.objs.size=I {cls:=.type T,data:=.fields O}->it 0 a0 bM (ba.heap.push {cls:=.type T,data:=.fields O}))(h:eu 0 aj bM≠.ab):
  tr (gC aZ H.w) A (.forLoop t ⇑ba.heap.objs.size body [] ae) (EV H ac ae pr Y s A (eu 0 aj bM)) {ba with heap:=ba.heap.push {cls:=.type T,data:=.fields O}}:=by
 let v:=oI ba.heap;let q:=g.go k P;let a:∀y o,ba.heap.get? y=I o->(ba.heap.push {cls:=.type T,data:=.fields O}).get? y=I o:=λy o Q=>i9 _ Q;let f:=nG ba.heap (o:={cls:=.type T,data:=.fields O}) j;show Ji (ba:={ba with heap:=ba.heap.push {cls:=.type T,data:=.fields O}}) G @d IO fH J k (JM P v) (bB.made (t:=ba.toks) k P a) (q.go P.aK (bB.keeps (t:=ba.toks) P.aK a)) (u (Hr P.aK q v f b) f) h
theorem RW{l:Pos}(bC:bC H c.C c.gt K)(z:c.aM=ak)(w:dm H aB U c n)(d:lm H aB U c n)(J:eA H aB U c A ac ae n)(k:aO H ac Y D s)(g:br H.ai ae aj Y s.heap)(B:eU c aj "range"=L)(Q:fo [e]=L)
  {q:bA bl}(u:(((ev c n e aj).G eW).G λm=>jM (jd c n pr t body) m aj) D=q)(h:q≠.ab):gH H A ac ae pr Y s (exec (.For t (.Call (.Name "range" p) [e] [] l) body [] pos) ae) q:=by
 show wpAny_For (KD bC @w J.at_ k g B Q u h λb ag ah T N V a x=>?_) (Bc j);obtain⟨aa,r,O,af⟩:=a;subst x;let v:=Be O;let f:=nG N (o:=vw b.toNat) j;let M:∀y o,T.heap.get? y=I o->(N.push (vw b.toNat)).get? y=I o:=λy o e=>i9 _ (O y o e);let E:=(g.go k r).go r.aK (bB.keeps (t:=V) r.aK M);show Ji (eu:=λi aj=>jM (jd c n pr t body) ((lO b).drop i) aj) z @d (Ix b) (λ_ _ _=>Jh _) J k (JM r v) (bB.made (ae:=ae) (pr:=pr) (t:=V) k r M) E
  #[Hr r.aK (g.go k r) v f (),ff _,by rw[ahi];show f] h
theorem RV{i:Nat}{a:ar}(bC:bC H c.C c.gt K)(G:c.aM=ak)(d:lm H aB U c n)(J:eA H aB U c A ac ae n)(k:aO H ac Y D s)(g:br H.ai ae aj Y s.heap)(r:df H ac Y s a0 bM ba)(o:Ac H a0 ba.heap ⇑i a)(b7:bM[i]?=I b0)(h:qC (jd c n pr t body) i aj (I b0) bM≠.ab):
  cE (gC aZ H.w) A (Er a) (λu B=>tr (gC aZ H.w) A (.forLoop t u body [] ae) (EV H ac ae pr Y s A (qC (jd c n pr t body) i aj (I b0) bM)) B) (dN H ac (kp H.ai ae pr) Y s (qC (jd c n pr t body) i aj (I b0) bM)) ba:=by
 cases b0 with
 |list O=>obtain⟨E,rfl,x,af,p,T,aa⟩:=fR r.aK o b7;show ag6 (oY T) (xg (eu:=λy aj=>jL (jd c n pr t body) i (O.length-y) y aj) G @d J k g r () (Iw i O.length) (λ_ _ _=>VH) (λQ f=> #[Q,E,x,#[_,f,j,j]]) h)
 |id b=>
  obtain⟨E,rfl,x,kvs,l,m⟩:=fR r.aK o b7;let e:kvs.length=(b.map (·.1)).length:=by rw[fU];show yz m
  show ag5 (bC.gl.base.old r.aK x) l (xg (eu:=λy aj=>ji (jd c n pr t body) i (b.map λv:Int×V=>v.1) ((b.map λv:Int×V=>v.1).drop y) aj) G @d J k g r () (TX i (b.map λv:Int×V=>v.1)) (λ_ _ _=>VD _) (λQ f=> #[Q,E,x,by rw[<-e];show#[_,f,j,j]]) h)
 |aX b=>
  obtain _|⟨v,q⟩:=b
  .obtain⟨E,rfl,x,kvs,l,m,z⟩:=fR r.aK o b7;show ag5 (kvs:=[]) (bC.gl.base.old r.aK x) (z j) (xg (eu:=λ_ aj=>M.N (.next aj)) G @d J k g r () (TY i) (λ_ _ _=>j) (λQ f=> #[j,Q,b7,E,x,#[_,f,j,j]]) h)
  cases h j
 |_=>cases h j
theorem ae3{m:Mine.M bl}(bC:bC H c.C c.gt K)(G:c.aM=ak)(w:dm H aB U c n)(af:lm H aB U c n)(aa:eA H aB U c A ac ae n)(k:aO H ac Y D s)(g:br H.ai ae aj Y s.heap)(v:m=Hm c n (jd c n pr t body) aj iter)(h:m D≠.ab):
  gH H A ac ae pr Y s (exec (.For t iter body [] pos) ae) (m D):=by
 subst v;unfold Hm at h|-;rcases x:i1 iter with _|Q
 .rw[x] at h;show WZ (b:=gK iter) (W:=gH H A ac ae pr Y s (exec (.For t iter body [] pos) ae)) h λl N=>?_;show wpAny_For (Ld k N (λah=>w aa.at_ k g ah) λB q ap a V aq u r o f=>?_) (Bc l);rw[f];cases B with
  |J O=>obtain⟨E,e,p,rfl,T,ao⟩:=(show∃E e n,a= ⇑E/\IsT V.heap E e n/\bo H.ai ap V.heap O e.toList from o);let ag:∀z:Obj,cF V.heap (V.heap.push z):=λz=>cF.keeps λy d Q=>i9 _ Q;show ag7 #[_,T,j,_,j] (xg (eu:=λam aj=>jM (jd c n pr t body) (O.drop am) aj) G @af aa k g r () (Iy O) (λ_ _ _=>Jh _) (λan al=> #[an,E,e,p,#[_,al,j,j],ag _ _ _ _ T,bo.aD (ag _) (cL.refl _) _ _ ao]) u)
  |ref i=>
   rcases b7:q[i]? with _|z
   .cases u (aN (λd=>qC (jd c n pr t body) i aj d q) b7)
   let Q:Hl (jd c n pr t body) aj ⇑i q=qC (jd c n pr t body) i aj (I z) q:=aN (λd=>qC (jd c n pr t body) i aj d q) b7;rw[Q] at u|-;show RV bC G @af aa k g r o b7 u
  |_=>cases u j
 rw[x] at h;show W0 (b:=eU c aj "range"&&fo [Q]) (W:=gH H A ac ae pr Y s (exec (.For t iter body [] pos) ae)) h λl N=>?_;let l:=dj.mp l;obtain⟨ar,as,rfl⟩:=KA x;show RW bC G @w @af aa k g l.1 l.2 j N
end
end
section
variable{H:bk}{Z:ii H.ai}{pr Kh:List Str}
theorem Zf{P:aW->Prop}(y:∀v e Y l p,eU c aj "ValueError"=L->P (.Call (.Name "ValueError" v) [.Constant (.str e) Y l] [] p))(Q:aW)(z:yv c aj Q=L):P Q:=by
 cases Q with
 |Call t G H p=>
  cases t with
  |Name u v=>
   obtain _|⟨E,G⟩:=G
   .show cY z
   .cases E with
    |Constant B Y l=>
     cases B with
     |str e=>
      obtain _|_:=G
      .obtain _|_:=H
       .let o:=dj.mp z;let Q:=gx.mp o.1;show Q.symm▸y v e Y l p (Q▸o.2)
       .show cY z
      .show cY z
     |_=>show cY z
    |_=>show cY z
  |_=>show cY z
 |_=>show cY z
def Zg(z:yv c aj e=L):∃v u Y l p,e=.Call (.Name "ValueError" v) [.Constant (.str u) Y l] [] p/\eU c aj "ValueError"=L:=Zf (P:=λe=>∃v u Y l p,e=.Call (.Name "ValueError" v) [.Constant (.str u) Y l] [] p/\eU c aj "ValueError"=L) (λv a Y l p O=> #[v,a,Y,l,p,j,O]) e z
theorem ae6{Q:aW}{pos:Pos}(bC:bC H c.C c.gt K)(J:eA H aB U c A ac ae n)(a:aO H ac Y D s){m:Mine.M bl}
  (v:m=match !c.aM&&yv c aj Q with|true=>M.raise|false=>M.ab)(h:m D≠.ab):
  gH H A ac ae pr Y s (exec (.Raise (I Q) au pos) ae) (m D):=by
 let l:=iu (congrFun v D) h;clear v h;let bs:=cd l.1;let f:=J.at_.handled ((p8 _).mp bs.1);obtain⟨p,u,g,e,k,rfl,O⟩:=Zg bs.2;show Raise_new f (t7 j (λb r=>n4 bC.gl.base J.at_.ok a (so O) (bC.np _ (.tail _ (.tail _ (.tail _ (.tail _ (.tail _ (.tail _ (.head _)))))))) bC.AA r) ?_);show zi (afZ (k:=g) (pos:=e) (D' ?_));show call_exc_raise excClass_ValueError (λN d T=>?_) (show 1<=j9 by decide);obtain⟨z,o,V,i,G⟩:=T.there;let P:df H ac Y s Y D {s with heap:=N,toks:=s.toks+1}:=bB.keeps a T.keeps;show#[D,Y,d,.new,l.2,j,P.wide a,#[T.new,z,_,o,V,i,G,j,j],trivial]
theorem bB.weak(z:∀u,u∈pr->u∈Kh)(P:bB H ac (kp H.ai ae Kh) Y s a0 c3 aR):lp H ac ae pr Y s a0 c3 aR:= #[P.aK,P.ext,λa c=>P.pr a λu B T=>z u (c u B T),P.os,P.gens]
def xo(g:b5):b5:={g with aM:=L,ag:=λa a=>M.ab}
theorem eA.mark(J:eA H aB U c A ac ae n)(B:ar):eA H aB U (xo c) (A.mark (I B)) ac ae n:= #[#[J.at_.ok,J.at_.frames,λz=>(nomatch z),J.at_.depth,J.at_.units,J.at_.line],J.top,J.own]
theorem Vv{B:aq}{T:List (Str×aq)}(z:aT x T=I B):x∈T.map (·.1):=by
 induction T with
 |nil=>show db z
 |cons v T w=>
  obtain⟨e,a⟩:=v;rw[mn] at z;by_cases l:x=e
  .show l▸.head _
  .rw[aS l] at z;show .tail _ (w z)
def LS(g:b5)(U:Nat)(pr:List Str)(h:List dF)(Y:ap):bA bl->bA bl
 |.ok r c3=>.ok r c3
 |.exc c3=>eF (xo g) U pr h Y c3
 |.ab=>.ab
def acq(g:b5)(U:Nat)(pr:List Str)(x h:List dF)(Y:ap):Mine.M bl:=λD=>LS g U pr h Y (eF g U (pr++Y.map (·.1)) x Y D)
theorem ae_{i:List dF}{f:dF}{l:Pos}(bC:bC H c.C c.gt K)(d:lm H aB U c n)(aw:lm H aB U (xo c) n)(J:eA H aB U c A ac ae n)(k:aO H ac Y D s)(ag:br H.ai ae aj Y s.heap){m:Mine.M bl}
  (v:m=match b_ x "ValueError"&&eU c aj x&& !c.aM with
   |true=>acq c n pr body (f::i) aj
   |false=>M.ab)(h:m D≠.ab):
  gH H A ac ae pr Y s (exec (.Try body [.ExceptHandler (I (.Name x p)) au (f::i) l] [] [] pos) ae) (m D):=by
 let v:=iu (congrFun v D) h;let ay:=cd v.1;let bs:=cd ay.1;obtain rfl:=gx.mp bs.1;let v:m D=LS c n pr (f::i) aj (eF c n (pr++aj.map (·.1)) body aj D):=v.2;let r:eF c n (pr++aj.map (·.1)) body aj D≠.ab:=λz=>by rw[z] at v;show h v
 let sub:∀e,e∈pr->e∈pr++aj.map (·.1):=λe z=>nB _ z;obtain⟨aJ,N⟩:=J.top;show wpAny_Try_except (eb (d (pr:=pr++aj.map (·.1)) J k ag r) (λt aC aa=>?_) λQ aC aa=>?_)
 .obtain⟨E,y,g,am,P,ah⟩:=aa;rw[am] at v;cases E with
  |next u=>obtain⟨rfl,q⟩:=ah;show Nd #[.next u,y,g,v,P.weak sub,j,q]
  |ret B=>obtain⟨aE,rfl,az⟩:=ah;show#[.ret B,y,g,v,P.weak sub,aE,j,az]
 .show eb (x7 (bf:=λ_ _=>False) J.at_.frames N J.own J.own k aa) (λ_ aL ao=>?_) λ_ _ o=>o.elim;show eb (uj (bf:=λ_ _=>False) au k ao) (λ_ aN al=>?_) λ_ _ o=>o.elim;let ap:=al;obtain⟨y,g,E,k0,am,rfl,P3,an,T,rfl⟩:=al;obtain⟨ax,aQ,aG,V,as,_⟩:=an.there;show wpAny_handleBy_builtin (X:="ValueError") (T:="ValueError") (b:=L) PySem.F.isExc_ValueError PySem.F.notTuple_ValueError PySem.F.self_ValueError
   (n4 bC.gl.base J.at_.ok P3.aK (so bs.2) (bC.np _ (.tail _ (.tail _ (.tail _ (.tail _ (.tail _ (.tail _ (.head _)))))))) bC.AA #[j,#[ax,V,as],?_])
  show eb (uj (bf:=λ_ _=>False) au k ap) (λ_ aP aq=>?_) λ_ _ o=>o.elim;obtain⟨aA,aR,w,aI,ar,G,O,aF,_⟩:=aq;let a:=O.weak sub;rw[ar] at v;let v:m D=eF (xo c) n pr (f::i) aj aA:=v;show eb (aw (pr:=pr) (J.mark _) O.aK (O.pr aj (λe B av=>mH _ (Vv av)) ag) (d5 v h)) (λt aD af=>v▸af.trans a) λaH aD af=>?_;show JQ (zG:=A.mark (I ⇑E)) J.at_.frames N J.own J.own k (v▸af.trans a)
end
variable{co:Env}{dP:aW}{jl Kf:Pos}{AE:List (Str×ay)}{ky:Option (ar->Sem Unit)}{names:List (Str×gz)}{jy:List (Str×ay)}
def sv(C:gS)(i d:Env):Env:={d with scope:=relabel C i}
inductive mV(co:Env)(P:a3->Prop)(aR:a3):Prop
 |mk (m:Str->Option ar) (n:aR.heap.Ns co.locals m) (h:∀aI,j5 co.locals aR.heap aI->P {aR with heap:=aI}):mV co P aR
def tD(M:oZ)(r:iH)(U:ar->a3->Prop)(c:Option (ar->Sem Unit))(b:ar->a3->Prop)(g:ar)(d:Env)(q:Result)(E:a3):Prop:=
 match q,c with
 |.ok _,au=>mV d (b g) E
 |.ok _,I a=>cE M r (a g) (λe o=>mV d (b .none) o) U E
 |.error x,_=>mV d (λo=>cE M r (Na "comprehension.variables-let-go" x d:Sem ar) (λe e=>False) U o) E
def zM(M:oZ)(r:iH)(U:ar->a3->Prop)(c:Option (ar->Sem Unit))(d:ar->a3->Prop)(Q:aW)(b:gS)(i:Env)(k:Sem ar)(a:List (Str×ay))(j:ar)(e:a3):Prop:=cE M r k (λjy C=>cE M r (zy b i.globals a [] i.qual au .none (I i)) (λco p=>tr M r (.compStart Q 0 j jy (sv b i co)) (tD M r U c d jy (sv b i co)) p) U C) U e
section
variable{M:oZ}
theorem mV.go{P:a3->Prop}{d:Unit->a3->Prop}{O:List (Str×gz)}{a:List (Str×gz)->List ar}(g:mV co P s)(f:co.scope.kind=.function)(x:∀u∈O,u.2=.local->co.kindOf u.1=I .local)(p:∀o,P o->d bL o):cE M A (ah1 co a O) d bf s:=by obtain⟨m,U,z⟩:=g;show wpAny_comp_letGo f O s m x U λN r b i=>p _ (z N i)
def AM{v:aq->Bool}{u:aq}(z:u∈(l.filter v).reverse):u∈l:=(List.mem_filter.mp (List.mem_reverse.mp z)).1
def ZF{u:aq}(z:u∈l.drop 1++l.take 1):u∈l:=(d9.mp z).elim List.mem_of_mem_drop List.mem_of_mem_take
theorem PR{q:aW}{k first:Sem ar}
  (h:∀u,agI q ae u=pure u)(i:M4 sc ae=pure AE)(f:sc.kind=.function)(v:∀u∈sc.names,u.2=.local->sc.names.lookup u.1=I .local)
  (z:cE M A first (λu V=>cE M A (Er u) (zM M A bf ky cM (.ListComp dP [#[.Name y jl,q,[],0]] sc pos) sc ae k AE) bf V) bf s):
  cE M A (agE (.ListComp dP [#[.Name y jl,q,[],0]] sc pos) sc ae Kf k ak first ky) cM bf s:=by
 show be (eb z (λu V n=>be (EA (be (wpAny_of_eq (h u) (be (iK (eb n (λj e b=>
  wpAny_standIf (be (eb b (λg C r=>be (wpAny_of_eq i (be (eb r (λd p w=>?_) λD D N=>N)))) λD D N=>N)))
   λD D N=>N))))))) λD D N=>N)
 let O:∀u∈sc.names,u.2=.local->af3 (sv sc ae d) u.1=I .local:=λu T c=>lookup_relabel_local (v u T c);show iK (be (wpAny_attempt (iK (wpAny_run (Em w λB E x=>?_)))));cases B with
 |ok t=>
  obtain _|a:=ky
  .show be (iK (mV.go (co:=sv sc ae d) x f (λu T=>O u (AM T)) λo l=>cK l))
  show be (v8 (be (iK (eb x (λD o m=>be (mV.go (co:=sv sc ae d) m f (λu T=>O u (AM (ZF T))) λo l=>cK l)) λD D N=>N))))
 |error u=>show be (iK (mV.go (co:=sv sc ae d) x f (λu T=>O u (AM T)) λo l=>eb l (λD D t=>t.elim) λD D y=>y))
end
section
variable{H:bk}
theorem uG(z:f6 sc x=L):aT x sc.names=I .local:=by
 let z:(match aT x sc.names with|some .local=>L|_=>ak)=L:=z;generalize aT x sc.names=d at z|-;obtain _|p:=d
 .show cY z
 cases p<;>first|rfl|show cY z
theorem KQ{c:Str->gz->Bool}{p:gz}(z:names.lookup x=I p):(names.map λ(U,p)=>if c U p=L then(U,o1) else(U,p)).lookup x=I (if c x p=L then .cell else p):=by
 induction names with
 |nil=>show db z
 |cons v q w=>
  obtain⟨U,Y⟩:=v;let z:(match x==U with|true=>I Y|false=>q.lookup x)=I p:=z;let Q:∀(y:Bool)(T:List (Str×gz)),nA x ((if y=L then(U,o1) else(U,Y))::T)=(match x==U with|true=>I (if y=L then .cell else Y)|false=>nA x T):=λy T=>by cases y<;>rfl
  show(Q (c U Y) _).trans ?_;rcases l:x==U with _|_
  .rw[l] at z;show w z
  rw[l] at z;rw[eq_of_beq l,bR z]
theorem yy{k:gz}(O:k≠.free)(z:names.lookup x=I k):
  (names.map λ(U,k)=>if(k==nH&&ae.scope.kind==.function&&ae.kindOf U==I .cell) then(U,o1) else(U,k)).lookup x=I k:=
 (KQ (c:=λU k=>k==nH&&ae.scope.kind==.function&&ae.kindOf U==I .cell) z).trans (by rw[beq_eq_false_iff_ne.mpr O];rfl)
def Zw(z:names.lookup x=I .free):
  (names.map λ(U,k)=>if(k==nH&&ae.scope.kind==.function&&ae.kindOf U==I .cell) then(U,o1) else(U,k)).lookup x=I .cell\/(names.map λ(U,k)=>if(k==nH&&ae.scope.kind==.function&&ae.kindOf U==I .cell) then(U,o1) else(U,k)).lookup x=I .free:=by
 rw[KQ (c:=λU k=>k==nH&&ae.scope.kind==.function&&ae.kindOf U==I .cell) z];cases nH==nH&&ae.scope.kind==.function&&ae.kindOf x==I .cell
 .show .inr j
 .show .inl j
def hU(i:Env):List (Str×gz)->List (Str×ay)->List (Str×ay)
 |[],jy=>jy
 |(x,.free)::r,jy=>match i.cells.lookup x with
  |some a=>hU i r ((x,a)::jy)
  |none=>hU i r jy
 |_::r,jy=>hU i r jy
def F'{q:List (Str×gz)}:hU ae ((x,.free)::q) jy=(match ae.cells.lookup x with|some a=>hU ae q ((x,a)::jy)|none=>hU ae q jy):=j
theorem Ga{p:gz}{q:List (Str×gz)}(z:p≠.free):hU ae ((x,p)::q) jy=hU ae q jy:=by cases p<;>first|rfl|show cH j z
theorem Pu(i:Env)(b:List (Str×gz))(g:List (Str×ay))(z:∀v∈b,v.2=.free->(i.cells.lookup v.1).isSome=L):
  (forIn b g λ(u:Str×gz) h=>(if u.2==.free then do let a<-El i u.1;pure (ML ((u.1,a)::h)) else pure (ML h):Sem (ForInStep (List (Str×ay)))))=pure (hU i b g):=by
 induction b generalizing g with
 |nil=>rfl
 |cons v q w=>
  obtain⟨u,p⟩:=v;let z:=bg.mp z;rw[ahs];by_cases O:p=.free
  .subst O;rw[F'];rcases l:i.cells.lookup u with _|a
   .have:=z.1 j;rw[l] at this;show cY this
   let U:El i u=pure a:=by unfold El;rw[l]
   change((El i u>>=λa=>pure (ML ((u,a)::g)))>>=_)=_;rw[U];show w _ z.2
  .rw[Ga O];change((if(p==nH)=L then _ else _)>>=_)=_;rw[aS λl=>O (eq_of_beq l)];show w _ z.2
theorem Pt(i:Env)(b:List (Str×gz))(g:List (Str×ay))(f:g.lookup y=au\/g.lookup y=i.cells.lookup y)(o:(y,nH)∈b\/g.lookup y=i.cells.lookup y)(M:(i.cells.lookup y).isSome=L):(hU i b g).lookup y=i.cells.lookup y:=by
 induction b generalizing g with
 |nil=>show o.elim (λz=>nomatch z) id
 |cons v q w=>
  obtain⟨u,p⟩:=v;by_cases O:p=.free
  .subst O;rw[F'];by_cases a:y=u
   .subst a;rcases l:i.cells.lookup y with _|E
    .rw[l] at M;show cY M
    let Q:nA y ((y,E)::g)=i.cells.lookup y:=by rw[vQ,fh,l]
    show(w _ (.inr Q) (.inr Q)).trans l
   .let o:(y,nH)∈q\/g.lookup y=i.cells.lookup y:=o.imp (λz=>(gm.mp z).elim (λz=>cH (aN afR z) a) id) id;rcases l:i.cells.lookup u with _|E
    .show w g f o
    let Q:nA y ((u,E)::g)=nA y g:=by rw[vQ,beq_eq_false_iff_ne.mpr a]
    show w _ (Q▸f) (Q▸o)
  .rw[Ga O];show w g f (o.imp (λz=>(gm.mp z).elim (λz=>cH (aN Prod.snd z).symm O) id) id)
theorem Bd{a:gS}(z:jE a aj names=L):∀v∈names,v.2≠.cell/\(v.2=.free->uE a v.1=L/\(aT v.1 aj).isSome=L):=by
 induction names with
 |nil=>show λb z=>nomatch z
 |cons v q w=>
  obtain⟨u,p⟩:=v;cases p with
  |free=>have z:=cd z;show bg.mpr #[#[(λl=>nomatch l),λb=>cd z.1],w z.2]
  |cell=>show cY z
  |_=>show bg.mpr #[#[(λl=>nomatch l),(λl=>nomatch l)],w z]
theorem Vm{b:List (Str×gz)}(z:mj b names=L):∀v∈names,v.2=.local->b.lookup v.1=I .local:=by
 induction names with
 |nil=>show λa z=>nomatch z
 |cons v q w=>
  obtain⟨u,p⟩:=v;cases p with
  | «local» =>have z:=cd z;show bg.mpr #[λa=>(mo ..).symm.trans (uG (sc:= #[.function,b,ak,ak,[]]) z.1),w z.2]
  |_=>show bg.mpr #[(λl=>nomatch l),w z]
theorem Je{A:V}(z:aT y (freeOf sc aj)=I A):aT y sc.names=I .free/\aT y aj=I A:=by
 induction aj with
 |nil=>show db z
 |cons v q w=>
  obtain⟨u,B⟩:=v;let z:aT y (match(match aT u sc.names with|some .free=>L|_=>ak) with|true=>(u,B)::freeOf sc q|false=>freeOf sc q)=I A:=z;rw[mn];by_cases O:y=u
  .subst O;cases l:aT y sc.names with
   |none=>rw[l] at z;show db (l.symm.trans (w z).1)
   |some p=>
    rw[l] at z;cases p with
    |free=>rw[mn,aL j] at z;rw[aL j];show#[j,z]
    |_=>show nomatch l.symm.trans (w z).1
  .rw[aS O];revert z;cases(match aT u sc.names with|some .free=>L|_=>ak) with
   |false=>show w
   |true=>show λz=>w (by rw[mn,aS O] at z;show z)
end
variable{gU:ay}
section
variable{H:bk}
theorem bB.r7(k:aO H ac Y D s)(P:df H ac Y s a0 c3 aR)(v:s.heap.get? a=au)(i:a∉a0)(A:∀d,aR.heap.get? a=I d->d.cls≠.type "tuple")
  (p:∀y z,y≠a->aR.heap.get? y=I z->fL.get? y=I z):df H ac Y s a0 c3 {aR with heap:=fL,toks:=t}:=by
 let E:=P.aK;let V:H.base.get? a=au:=by
  rcases l:H.base.get? a with _|d
  .rfl
  rw[k.dy _ _ l] at v;cases v
 let h:∀y∈eH ac,y≠a:=λy C l=>by obtain⟨_,d,Q,_⟩:=k.fm.mem C;rw[l,v] at Q;cases Q
 let bn:cF aR.heap fL:=cF.of λy d Q U=>p y d (λl=>by rw[l] at Q;show A d Q U) Q;show#[#[E.sim.turn bn λy C d Q=>p y d (λl=>i (l▸C)) Q,λy d Q=>p y d (λl=>by rw[l,V] at Q;cases Q) (E.dy y d Q),xh E.fm λy C d Q=>p y d (h y C) Q,E.apart,λy C d Q=>?_],#[P.ext.pre,λy d Q C=>?_,λy d Q=>?_],trivial,P.os,P.gens]
 .obtain⟨_,B,J,_⟩:=E.fm.mem C;have:=p y B (h y C) J;rw[Q] at this;rw[bR this];show E.hY y C B J
 .let r:y≠a:=λl=>by rw[l,v] at Q;cases Q
  show(P.ext.keep y d Q C).trans λB J=>.inl (p y B r J)
 .let r:y≠a:=λl=>by rw[l,v] at Q;cases Q
  obtain⟨B,J,U⟩:=P.ext.qw y d Q;show#[B,p y B r J,U]
theorem bB.take{d:O}(k:aO H ac Y D s)(P:df H ac Y s a0 c3 aR)(v:s.heap.get? a=au)(i:a∉a0)(q:fW H.w H.ai (a0++[a]) aR.heap d a):
  df H ac Y s (a0++[a]) (c3++[d]) aR:=by
 let E:=P.aK;let V:H.base.get? a=au:=by
  rcases l:H.base.get? a with _|d
  .rfl
  rw[k.dy _ _ l] at v;cases v
 show#[#[E.sim.add V i (λb b b u=>u) (λb b u=>u) q,E.dy,E.fm,λy p l=>(d9.mp l).elim (E.apart y p) λl=>?_,E.hY],#[?_,P.ext.keep,P.ext.qw],trivial,P.os,P.gens]
 .obtain⟨_,d,Q,_⟩:=k.fm.mem p;rw[fC.mp l,v] at Q;cases Q
 .obtain⟨T,rfl,c⟩:=P.ext.pre;show#[T++[a],ez ..,λy C=>(d9.mp C).elim (c y) λl=>fC.mp l▸v]
theorem Cp{c:ii H.ai}(P:bB H ac c Y s a0 c3 aR)(i:a∉Y)(Q:s.heap.get? a=I o):a∉a0:=λl=>by
 obtain⟨T,rfl,b⟩:=P.ext.pre;obtain l|l:=d9.mp l
 .show i l
 .rw[b a l] at Q;cases Q
theorem hQ.but{v:hM->Prop}{Q:ar}{M:aG}{C:a3}(k:aO H ac Y D s)(u:df H ac Y s o8 M C)(aq:hQ H ac (k3 H.ai) o8 C r v Q aR)(aj:s.heap.get? a=au)(i:a∉o8)
  (N:C.heap.get? a=I o)(U:o.cls=.type "dict")(G:∀O,o.data≠.fields O)(p:∀y z,y≠a->aR.heap.get? y=I z->fL.get? y=I z):hQ H ac (k3 H.ai) Y s r v Q {aR with heap:=fL}:=by
 obtain⟨ao,g,af,m,bJ,bZ,P,J,ah⟩:=aq;let V:aR.heap.get? a=I o:=(P.ext.keep a o N i).of (AS U);let h:=bB.r7 (t:=aR.toks) k (u.trans P) aj (Cp P i N) (λB Q=>by rw[V] at Q;injections Q;show r_ U) p;let e:=J.back u.ext;obtain⟨a1,c,O,ag,ab,A,E,ap,ae⟩:=e;let l:∀y z n,aR.heap.get? y=I z->z.data=.fields n->y≠a:=λy z n f d an=>by rw[an,V] at f;injections f;show G _ d
 show#[ao,g,af,m,bJ,bZ,h,#[a1,c,O,ag,p _ _ (l _ _ _ ab E) ab,A,E,ap,?_],ah];cases m with
 |new=>show ae
 | «at» T as=>obtain⟨x,w,al,am,q,aa,b,j⟩:=ae;show#[x,w,al,am,q,p _ _ (l _ _ _ aa b) aa,b,j]
def xJ:(rF sc AE gU ae).kindOf y=(sc.names.map λ(U,k)=>if(k==nH&&ae.scope.kind==.function&&ae.kindOf U==I .cell) then(U,o1) else(U,k)).lookup y:=j
theorem Iz(z:uE sc x=L):aT x sc.names=I .cell:=by
 let z:(match aT x sc.names with|some .cell=>L|_=>ak)=L:=z;generalize aT x sc.names=d at z|-;obtain _|p:=d
 .show cY z
 cases p<;>first|rfl|show cY z
theorem IC(z:m_ sc x=L):aT x sc.names=I .globalImplicit:=by
 let z:(match aT x sc.names with|some .globalImplicit=>jk x|_=>ak)=L:=z;generalize aT x sc.names=d at z|-;obtain _|p:=d
 .show cY z
 cases p<;>first|rfl|show cY z
theorem xB(z:kV sc=L):sc.kind=.function:=by let z:(match sc.kind with|.function=>L|_=>ak)=L:=z;generalize sc.kind=p at z|-;cases p<;>first|rfl|show cY z
def PM(J:mS c.sc ae ac)(b:kV sc=L)(a:List (Str×ay))(d:ay):mS sc (rF sc a d ae) ac where
 kind:=xB b
 aj:=λu z=>by rw[xJ];show yy (k:=.local) nofun (by rw[<-mo];show uG z)
 cell:=λu z=>by rw[xJ];show yy (k:=.cell) nofun (by rw[<-mo];show Iz z)
 top:=λu z=>by rw[xJ];show yy (k:=.globalImplicit) nofun (by rw[<-mo];show IC z)
 glob:=J.glob
 blt:=J.blt
 frame:=J.frame
def Hq(J:mS c.sc ae ac)(g:br H.ai ae aj Y s.heap){A:V}(U:uE c.sc y=L)(d:aT y aj=I A):∃E a,ae.cells.lookup y=I E/\E∉Y/\s.heap.IsCell E (I a)/\aP H.ai Y s.heap A a:=by
 obtain⟨m,v,i⟩:=g.names;let O:=J.cell y U;obtain⟨p,_⟩|⟨p,E,a,f,o,M,b⟩:=i y A d
 .rw[O] at p;cases p
 .show#[E,a,f,o,M,b]
theorem PL(J:mS c.sc ae ac)(g:br H.ai ae aj Y s.heap)(b:jE c.sc aj sc.names=L):M4 sc ae=pure (hU ae sc.names []):=by
 have:=Pu ae sc.names [] λv t Q=>by obtain⟨f,o⟩:=(Bd b v t).2 Q;obtain⟨A,D⟩:=ze.mp o;obtain⟨E,a,M,_⟩:=Hq J g f D;rw[M];rfl
 unfold M4;simp only[pure_bind,bind_pure] at this|-;show this
theorem PQ(J:mS c.sc ae ac)(g:br H.ai ae aj Y s.heap)(h:jE c.sc aj sc.names=L){m:Str->Option ar}(i:gU∉Y)(v:aI.Ns gU m)(p:∀y d,s.heap.get? y=I d->aI.get? y=I d):
  br H.ai (rF sc (hU ae sc.names []) gU ae) (freeOf sc aj) Y aI:=by
 show#[i,m,v,λe A l=>?_];obtain⟨f,o⟩:=Je l;rw[mo] at f;let t:=mem_of_lookup f;let U:=((Bd h _ t).2 j).1;obtain⟨E,a,M,b,⟨n,k,w⟩,O⟩:=Hq J g U o;show .inr #[?_,E,a,?_,b,#[n,p _ _ k,w],aP.aD (cF.keeps p) (cL.refl _) _ _ O]
 .show Zw f
 .split (hU ae sc.names []).lookup e=I E;rw[Pt ae sc.names [] (.inl j) (.inl t) (by rw[M];rfl),M]
end
variable{gL:bA (List V)}
def oq(s:V->Mine.M V)(q:Mine.M (List V)):ju->Mine.M (List V)
 |.ab=>M.ab
 |.fin=>M.N []
 |.it v=>(s v).G λx=>q.G λxs=>M.N (x::xs)
inductive zU(H:bk)(g:V->Mine.M V)(aY:ay)(a0:List ay)(bM:aG)(b:bj)(gL:bA (List V)):Prop
 |mk (r:Nat->aG->ju) (eu:Nat->Mine.M (List V)) (it:Env->Nat->List ay->aG->bj->Prop) (aA:Nat) (u:gL=eu 0 bM) (fH:∀i D,eu i D=oq g (eu (i+1)) (r i D) D) (IO:∀co,kH H co r (it co) aY aA) (p:aA<=4000000)
  (a:∀co i Y D (A:iH)(cM:ar->a3->Prop)(bf:ar->a3->Prop)(s:a3),it co i Y D s.heap->cM ⇑aY s->bu H A (Er ⇑aY) cM bf s) (c:∀co:Env,f3 aY a0 co b->it co 0 a0 bM b):zU H g aY a0 bM b gL
section
variable{H:bk}{g:V->Mine.M V}{m i:Nat}{JX:Nat->aG->ju}
theorem f3.but(d:f3 aY Y ae h)(r:a≠aY)(bn:cF h aI)(p:∀y z,y≠a->h.get? y=I z->aI.get? y=I z):Moved aY ae h Y Y aI:=by obtain⟨z,O,T,f,o⟩:=d.b0;show#[#[d.off,d.ne,z,O,T,p _ _ (i8 r) f,o,‹_›,‹_›,‹_›],λy Q=>p _ _ (i8 r) Q,bn,cL.refl _]
theorem f3.keeps(d:f3 aY Y ae h)(p:∀y d,h.get? y=I d->aI.get? y=I d):Moved aY ae h Y Y aI:=by obtain⟨z,O,T,f,o⟩:=d.b0;show#[#[d.off,d.ne,z,O,T,p _ _ f,o,‹_›,‹_›,‹_›],λy Q=>p _ _ Q,cF.keeps p,cL.refl _]
theorem kH.but(IO:kH H ae JX it aY aA)(u:it (i+1) Y D h)(r:a≠aY)(bn:cF h aI)(p:∀y z,y≠a->h.get? y=I z->aI.get? y=I z):it (i+1) Y D aI:=IO.go _ _ _ _ _ _ _ (λl=>nomatch l) u ((IO.own _ _ _ _ u).but r bn p)
theorem kH.ext(IO:kH H ae JX it aY aA)(k:aO H ac Y D s)(u:it (i+1) Y D s.heap)(P:df H ac Y s a0 c3 aR):it (i+1) a0 c3 aR.heap:=IO.go _ _ _ _ _ _ _ (λl=>nomatch l) u ((IO.own _ _ _ _ u).go (pr:=[]) (P.wide (Z:=kp H.ai ae []) k) (d1.J (X:=[]) k.sim.rl P.ext))
def Jn(O:List V):lC g (O.drop i) D=oq g (lC g (O.drop (i+1))) (ox O[i]?) D:=JZ (P:=λT u=>lC g T D=oq g (lC g (O.drop (i+1))) u D) O i j λa=>j
theorem VQ:jj g m k i D=oq g (jj g m (afK k) (i+1)) (q2 k i D[m]?) D:=by
 obtain _|k:=k
 .split (match D[m]? with
   |some (.list O)=>match b' O.length i with
    |true=>M.N []
    |false=>M.ab
   |_=>M.ab:Mine.M (List V)) D=oq g (jj g m 0 (i+1)) (q2 0 i D[m]?) D
  generalize D[m]?=d;obtain _|d:=d
  .rfl
  cases d with
   |list O=>split (match b' O.length i with|true=>M.N []|false=>M.ab:Mine.M (List V)) D=oq g (jj g m 0 (i+1)) (match b' O.length i with|true=>.fin|false=>.ab) D;cases b' O.length i<;>rfl
   |_=>rfl
 split (match D[m]? with
  |some (.list O)=>match O[i]? with
   |some B=>(g B).G λu=>(jj g m k (i+1)).G λe=>M.N (u::e)
   |none=>M.N []
  |_=>M.ab:Mine.M (List V)) D=oq g (jj g m k (i+1)) (q2 (k+1) i D[m]?) D
 generalize D[m]?=d;obtain _|d:=d
 .rfl
 cases d with
  |list O=>
   split (match O[i]? with
   |some B=>(g B).G λu=>(jj g m k (i+1)).G λe=>M.N (u::e)
   |none=>M.N []:Mine.M (List V)) D=oq g (jj g m k (i+1)) (ox O[i]?) D
   cases O[i]? <;>rfl
  |_=>rfl
theorem br.but(g:br H.ai ae aj Y h)(r:a≠ae.locals)(A:∀d,h.get? a=I d->d.cls≠.type "tuple"/\∀B,d.data≠.cell B)(p:∀y z,y≠a->h.get? y=I z->aI.get? y=I z):br H.ai ae aj Y aI:=by
 obtain⟨j,m,v,i⟩:=g;let bn:cF h aI:=cF.of λy d Q U=>p y d (λl=>(A d (l▸Q)).1 U) Q;show#[j,m,?_,λe B M=>?_]
 .obtain⟨d,b,D,N,q⟩:=v;show#[d,b,D,p _ _ (i8 r) N,q]
 .obtain⟨dH,c,f,q⟩|⟨dH,o,c,U,i,⟨n,k,w⟩,q⟩:=i e B M
  .show .inl #[dH,c,f,aP.aD bn (cL.refl _) _ _ q]
  .show .inr #[dH,o,c,U,i,#[n,p _ _ (λl=>(A n (l▸k)).2 _ w) k,w],aP.aD bn (cL.refl _) _ _ q]
end
variable{jR:List V}{ks:Pos}{d0:ay}
section
variable{H:bk}{g:V->Mine.M V}
theorem hQ.map{C:bA aC}{v:hM->Prop}{Q:ar}(e:hQ H ac (k3 H.ai) Y s r v Q aR)(z:∀y,r=.exc y->C=.exc y):hQ H ac (k3 H.ai) Y s C v Q aR:=by obtain⟨y,g,E,m,f,o,M,b,O⟩:=e;show#[y,g,E,m,z _ f,o,M,b,O]
structure kF(gU:ay)(Y:List ay)(h:bj):Prop where
 off:gU∉Y
 b0:∃o,h.get? gU=I o/\o.cls=.type "dict"/\(∀vs,o.data≠.fields vs)/\∀v,o.data≠.cell v
theorem kF.go(y:kF gU Y s.heap)(P:df H ac Y s a0 c3 aR):kF gU a0 aR.heap:=by obtain⟨o,f,a,M⟩:=y.b0;show#[Cp P y.off f,o,(P.ext.keep gU o f y.off).of (AS a),a,M]
theorem kF.but(y:kF gU Y h)(r:a≠gU)(p:∀y z,y≠a->h.get? y=I z->aI.get? y=I z):kF gU Y aI:=by obtain⟨d,f,o⟩:=y.b0;show#[y.off,d,p _ _ (i8 r) f,o]
inductive EK(H:bk)(ac:List Env)(Y:List ay)(s:a3)(d0 gU:ay)(gL:bA (List V))(aR:a3):Prop
 |intro(jR:List V) (c3:aG) (b2:List ay) (G:Array ar) (m:Nat) (h:gL=.ok jR c3) (P:df H ac Y s b2 c3 aR) (q:d0∉b2) (x:IsL aR.heap d0 G m) (r:bo H.ai b2 aR.heap jR G.toList) (b:kF gU b2 aR.heap) (u:Str->Option ar) (n:aR.heap.Ns gU u):EK H ac Y s d0 gU gL aR
inductive EI(H:bk)(ac:List Env)(Y:List ay)(s:a3)(b6:ay)(gU:ay)(gL:bA (List V))(e:ar)(aR:a3):Prop
 |intro(o8:List ay) (M:aG) (C:a3) (u:Str->Option ar) (P:df H ac Y s o8 M C) (T:hQ H ac (k3 H.ai) o8 C gL (wh b6) e aR) (b:kF gU o8 C.heap) (n:aR.heap.Ns gU u):EI H ac Y s b6 gU gL e aR
def wd(T:bk)(M:List Env)(t:List ay)(s:a3)(g:ay)(C d:ay)(a:bA (List V))(q:Result)(E:a3):Prop:=match q with
 |.ok _=>EK T M t s C d a E
 |.error e=>EI T M t s g d a e E
def qp(i:List V):bA (List V)->bA (List V)
 |.ok xs D=>.ok (i++xs) D
 |.exc D=>.exc D
 |.ab=>.ab
theorem N8{A:V}{m:Mine.M (List V)}:qp jR ((m.G λe=>M.N (A::e)) D)=qp (jR++[A]) (m D):=by
 unfold M.G;cases m D with
 |ok e y=>show aN (bA.ok · y) (ez jR [A] e).symm
 |_=>rfl
theorem N7{q:bA (List V)}:qp [] q=q:=by cases q<;>rfl
inductive EJ(H:bk)(ac:List Env)(Y:List ay)(s:a3)(co:Env)(free:ap)(eu:Nat->Mine.M (List V))(it:Nat->List ay->aG->bj->Prop)(aA:Nat)(d0:ay)(gL:bA (List V))(k:Nat)(aR:a3):Prop
 |intro(i:Nat) (jR:List V) (c3:aG) (b2:List ay) (G:Array ar) (m:Nat) (O:k=aA-i) (h:gL=qp jR (eu i c3)) (c:jR.length=i) (P:df H ac Y s b2 c3 aR) (b6:br H.ai co free b2 aR.heap) (f:it i b2 c3 aR.heap) (q:d0∉b2) (x:IsL aR.heap d0 G m) (r:bo H.ai b2 aR.heap jR G.toList) (b:kF co.locals b2 aR.heap):EJ H ac Y s co free eu it aA d0 gL k aR
theorem PO{iter:aW}{scope:gS}{free:ap}{r:Nat->aG->ju}{J:Nat->Mine.M (List V)}
  (bP:A.handled=au)(cp:dm H aB U c n)(aE:dC H aB U c A ac co n)(bh:co.frame=I b6)(T:co.kindOf x=I .local)(ch:(co.scope.kind==.class||(co.scope.kind==.module&&co.locals !=co.globals))=ak)
  (b9:∀e a2,aT e free=I a2->e≠x)
  (IO:kH H co r it aY aA)(fH:∀i D,J i D=oq (λB=>ev c n dP (put x B free)) (J (i+1)) (r i D) D)(b1:aA<=4000000)
  (as:aO H ac Y D s)(bg:s.heap.get? aY=au)(bU:s.heap.get? d0=au)(bS:s.heap.get? co.locals=au)(aI:d0≠aY)(aH:d0≠co.locals)(N:aY≠co.locals)
  (P:df H ac Y s a0 bM ba)(bF:br H.ai co free a0 ba.heap)(bO:it 0 a0 bM ba.heap)(bT:d0∉a0)(b2:IsL ba.heap d0 (gn []) 0)(bQ:kF co.locals a0 ba.heap)(ci:gL=J 0 bM)(bu:gL≠.ab):
  tr (gC aZ H.w) A (.compLoop (.ListComp dP [#[.Name x ks,iter,[],0]] scope pos) 0 ⇑aY ⇑d0 co) (wd H ac Y s b6 d0 co.locals gL) ba:=by
 show codeAny_compLoop_list (EJ H ac Y s co free J it aA d0 gL) (λag E bV=>?_) aA #[0,[],bM,a0,(gn []),0,j,ci.trans N7.symm,j,P,bF,bO,bT,b2,j,bQ]
 obtain⟨i,aj,af,g,G,m,rfl,ae,bq,aC,a3,bp,aJ,bi,aR,bb⟩:=bV;let aU:=IO.own i g af _ bp;obtain⟨cC,cM,TI,be,bW,bX,cx,bY⟩:=aU.b0;let an:∀d,E.heap.get? aY=I d->d.cls≠.type "tuple":=λd Q=>by rw[be] at Q;injections Q;rw[bX];intro l;show bY.2 (by injections l<;>rfl)
 let T:=IO.step A (Ep (gC aZ H.w) A co λQ E=>wd H ac Y s b6 d0 co.locals gL (.error Q) E) ac i g af E bP aC.aK bp;rw[fH] at ae;generalize r i af=e at T ae;cases e with
 |ab=>cases bu ae
 |fin=>show T _ λa_ cn=>?_;let ag:∀y z,y≠aY->E.heap.get? y=I z->a_.get? y=I z:=λy z C Q=>cn y z C Q;let aa:=bB.r7 (t:=E.toks) as aC bg aU.off an ag;let bn:cF E.heap a_:=cF.of λy d Q aq=>ag y d (λl=>by rw[l] at Q;show an d Q aq) Q;obtain⟨u,cf,_⟩:=a3.names;obtain⟨d,a8,a6,cg,aV⟩:=cf;show#[aj,af,g,G,m,ae.trans (aN (bA.ok · af) (dS aj)),aa,aJ,ag _ _ aI bi,bo.aD bn (cL.refl _) _ _ aR,bb.but N ag,u,d,a8,a6,ag _ _ (i8 N) cg,aV]
 |it B=>
  obtain⟨bt,T⟩:=T;show T _ λa bJ ay cq b' cm=>?_;let ar:∀y z,y≠aY->E.heap.get? y=I z->bJ.get? y=I z:=jB cm;let bG:=bB.r7 (t:=ay) as aC bg aU.off an ar;let bC:cF E.heap bJ:=cF.of λy d Q aq=>ar y d (λl=>by rw[l] at Q;show an d Q aq) Q;let q:br H.ai co free g bJ:=a3.but N (λd Q=> #[an d Q,λB l=>by rw[be] at Q;injections Q;rw[bW] at l;cases l]) ar;let cr:aP H.ai g bJ B a:=aP.aD bC (cL.refl _) _ _ cq;let bc:=bb.but N ar;let b3:IsL bJ d0 G m:=ar _ _ aI bi;let cj:=bo.aD (ai:=H.ai) bC (cL.refl g) _ _ aR;obtain⟨u,aM,cA⟩:=id q.names;obtain⟨bx,a8,a6,k,bm,cd,cy⟩:=id aM;let aQ:bx.cls=.type "dict":=by obtain⟨d,a5,bL,_⟩:=bc.b0;rw[k] at a5;injections a5;show bL
  show Ev ?_;rw[Nc ‹_› ch];show Cr k bm cd λp al=>?_;let ax:=Cu (x:=x) (cz:=p) (t:=al) (v:=a) aM;let aw:j5 co.locals bJ (bJ.update co.locals (gA x p (.str x al) a)):=p' ..;let am:kF co.locals g (bJ.update co.locals (gA x p (.str x al) a)):=by let b_:(bJ.update co.locals (gA x p (.str x al) a)).get? co.locals=I (gA x p (.str x al) a bx):=qa _ k (vn bm);obtain⟨bv,a9,a7,f,bl,_⟩:=id ax;show#[bc.off,bv,f,(by rw[b_] at f;injections f;rw[(yo _ _ _ _ _).1];show aQ),(λcK l=>by rw[bl] at l;cases l),(λB l=>by rw[bl] at l;cases l)]
  generalize bJ.update co.locals (gA x p (.str x al) a)=bZ at ax aw am|-;let aS:=jB aw;let aX:=l6 aw k (r_ aQ);obtain⟨bD,az⟩:=q.put (v:=B) ‹_› aX aw aM ax cr;let az:=az free b9 q;let aa:=bB.r7 (t:=ay+1) as bG bS q.off (λd Q=>by rw[k] at Q;injections Q;show r_ aQ) aS;let bj:IsL bZ d0 G m:=aS _ _ aH b3;let ck:=bo.aD (ai:=H.ai) aX (cL.refl g) _ _ cj;let ca:=IO.but b' (i8 N) aX aS;let cl:ev c n dP (put x B free) af≠.ab:=λl=>bu (ae.trans (aN (qp aj) (n3 l)));show eb (cp (s:={E with heap:=bZ,toks:=ay+1}) aE aa.aK bD cl) (λe h eT=>?_) λQ h eT=>?_
  .obtain⟨a2,cs,ct,bN,P3,bH⟩:=eT;let av:IsL h.heap d0 G m:=(P3.ext.keep d0 _ bj aJ).of (Vd j);let bd:=Cp P3 aJ bj;let ce:=aR.length;show zv MJ #[_,av,j] af6 (af4 _ _) (list_append d0 G m e (ao (ds (ce.trans bq)) (ao (mL bt) (ao b1 (show 4000000<=j9 by decide))))) #[av,?_];let b4:j5 d0 h.heap (h.heap.update d0 (vY λb=>b.push e)):=p' ..;let bk:=Ed av (λb=>b.push e);let ah:=jB b4;let aL:∀d,h.heap.get? d0=I d->d.cls≠.type "tuple"/\∀B,d.data≠.cell B:=λd Q=>by have:=av.symm.trans Q;injections this;show#[I8 j,λB l=>by cases l]
   generalize h.heap.update d0 (vY λb=>b.push e)=aF at bk ah|-;let a1:cF h.heap aF:=cF.of λy d Q aq=>ah y d (λl=>by rw[l] at Q;show(aL d Q).1 aq) Q;let O:=bB.r7 (t:=h.toks) as (aa.trans P3) bU bd (λd Q=>(aL d Q).1) ah;let cb:=IO.but (IO.ext aa.aK ca P3) aI a1 ah;let bE:=br.but (az.go aa.aK P3) aH aL ah;show#[aA-(i+1),afL bt (zc i),i+1,aj++[a2],cs,ct,_,_,j,(ae.trans (aN (qp aj) (he bN))).trans N8,by rw[cu,bq];rfl,O,bE,cb,bd,bk,?_,(am.go P3).but aH ah];rw[EC];show bo.append (bo.aD a1 (cL.refl _) _ _ (ck.go aa.aK P3)) #[e,[],j,aP.aD a1 (cL.refl _) _ _ bH,j]
  .obtain⟨cw,cD,e5,b8,b5,b7⟩:=aE.ok.frame;obtain rfl:=bR (bh.symm.trans b7);show eb (x7 (bf:=_) aE.frames b8 b5 bh aa.aK eT) (λ_ bz aF=>?_) λ_ _ o=>o;let a':hQ H ac (k3 H.ai) g {E with heap:=bZ,toks:=ay+1} gL (wh b6) Q bz:=aF.map λcI l=>ae.trans (aN (qp aj) (wI l));obtain⟨cJ,cN,cv,cB,bs,cE,O,cG,cH⟩:=id a';obtain⟨bw,a4,bI,_⟩:=am.b0;let cc:bz.heap.get? co.locals=I bw:=(O.ext.keep _ bw a4 am.off).of (AS bI);obtain⟨bv,a9,a7,f,aV⟩:=ax;let bK:=a4.symm.trans f
   injections bK
   show#[g,af,_,_,aa,a',am,_,a9,a7,cc,aV]
end
variable{aF:b5}{globals:ay}{qual:Str}{J1:Obj}
section
variable{H:bk}
def PP{scope:gS}{b:List (Str×ay)}{d:Env->a3->Prop}(U:∀u∈scope.names,u.2≠.cell)
  (z:d {scope,locals:=s.heap.objs.size,globals,cells:=b,qual,func:=au,code:=ae.code,frame:=ae.frame,builtins:=ae.builtins} {s with heap:=s.heap.push {cls:=.type "dict",data:=.dict (gn [])}}):
  cE iN A (zy scope globals b [] qual au .none (I ae)) d bf s:=by
 simp only[zy,Option.isSome_some,if_true];show be (wpAny_alloc ?_);rw[forIn_yield_id b (λu T g=>by
  obtain⟨a,e⟩:=u;have:(e==o1)=ak:=by simpa using U _ T
  simp only[this,Mu,if_false])]
 show be (cK (be (cK (cK z))))
def qy(p:b5)(U:Nat)(y:aW)(x:Str)(Y:ap):V->Mine.M V:=λv=>ev p U y (put x v (freeOf p.sc Y))
def PK{aC:aW}
  (m:A.handled=au)(aV:dm H aB U aF n)(J:dC H aB U c A ac ae n)(G:c.aM=ak)(f:ae.frame=I b6)(aA:f6 aF.sc x=L)(aw:jE c.sc aj aF.sc.names=L)(ax:kV aF.sc=L)
  (aG:aO H ac Y D s)(aR:s.heap.get? aY=au)(P:df H ac Y s a0 bM eK)(aH:br H.ai ae aj a0 eK.heap)(g:eK.heap.get? aY=I J1)(av:∀d:Env,aY≠d.locals->f3 aY a0 d eK.heap)(aE:zU H (qy aF n dP x aj) aY a0 bM eK.heap gL)(h:gL≠.ab)
  (O:∀(C:ay)(d:Env)(q:Result)(E:a3),d.frame=I b6->s.heap.get? d.locals=au->s.heap.get? C=au->C≠d.locals->wd H ac Y s b6 C d.locals gL q E->tD (gC aZ H.w) A bf ky cM ⇑C d q E):
  zM (gC aZ H.w) A bf ky cM (.ListComp dP [#[.Name x ks,aC,[],0]] aF.sc pos) aF.sc ae (M' []) (hU ae aF.sc.names []) ⇑aY eK:=by
 show ag3 ?_ (ff _);let T:=oI eK.heap;generalize as:eK.heap.push {cls:=.type "list",dict:=au,data:=.seq ([]:List ar).toArray}=y;let az:∀aa o,eK.heap.get? aa=I o->y.get? aa=I o:=λaa o Q=>as▸i9 _ Q;let am:IsL y eK.heap.objs.size (gn []) 0:=as▸nG _ j
 show PP (λaD M=>(Bd aw aD M).1) ?_;let aP:=oI y;let b:eK.heap.objs.size≠y.objs.size:=λl=>by rw[l] at am;cases aP.symm.trans am
 split tr (gC aZ H.w) A _ (tD (gC aZ H.w) A bf ky cM ⇑eK.heap.objs.size (rF aF.sc (hU ae aF.sc.names []) y.objs.size ae)) {eK with heap:=y.push {cls:=.type "dict",data:=.dict (gn [])}}
 let al:=nG y (o:={cls:=.type "dict",data:=.dict (gn [])}) j
 let ao:∀aa o,y.get? aa=I o->(y.push {cls:=.type "dict",data:=.dict (gn [])}).get? aa=I o:=λaa o Q=>i9 _ Q
 generalize y.push {cls:=.type "dict",data:=.dict (gn [])}=af at al ao|-
 let an:∀aa o,eK.heap.get? aa=I o->af.get? aa=I o:=λaa o Q=>ao aa o (az aa o Q);let a:=Be az;let aJ:df H ac Y s a0 bM {eK with heap:=af}:=P.trans (bB.keeps (t:=eK.toks) P.aK an);let i:∀ah,eK.heap.get? ah=au->ah∉a0:=λah v l=>(P.aK.sim.mut l).elim λa2 z=>nomatch v.symm.trans z.1
 let N:aY≠y.objs.size:=λl=>by rw[l] at g;cases a.symm.trans g
 let aQ:eK.heap.objs.size≠aY:=λl=>by rw[<-l] at g;cases T.symm.trans g
 let aS:af.Ns y.objs.size (λ_=>au):= #[_,_,_,al,j,λ_ V=>(nomatch V),λ_=>j];let aI:=PQ (sc:=aF.sc) J.ok aH aw (gU:=y.objs.size) (i _ a) aS an;let e:=qx P a;let aq:=qx P T;let aN:kF y.objs.size a0 af:= #[i _ a,_,al,j,λa5 l=>(nomatch l),λB l=>(nomatch l)];obtain⟨r,a4,a1,aX,u,fH,IO,p,aU,aL⟩:=aE;let ap:=(IO (rF aF.sc (hU ae aF.sc.names []) y.objs.size ae)).go _ _ _ _ _ _ _ (λ_=>j) (aL _ (av _ N)) ((av (rF aF.sc (hU ae aF.sc.names []) y.objs.size ae) N).keeps an);let ag:=PO (c:=aF) (dP:=dP) (iter:=aC) (ks:=ks) (scope:=aF.sc) (pos:=pos) (free:=freeOf aF.sc aj) (ba:={eK with heap:=af})
  m @aV #[PM J.ok ax _ _,J.frames,λ_=>m,J.depth,J.units,J.line] f (by rw[xJ];show yy (k:=.local) (by simp) (mo ..▸uG aA)) (by simp[rF,relabel,xB ax]) (λaD a6 M l=>by rw[l] at M;show nomatch (uG aA).symm.trans (Je M).1) (IO _) fH p aG aR aq e aQ b N aJ aI ap (i _ T) (ao _ _ am) aN u h
 let ag:=Em ag λq E aT=>O _ (rF aF.sc (hU ae aF.sc.names []) y.objs.size ae) q E f e aq b aT;show codeAny_compStart_list ag (aU _ 0 a0 bM _ _ _ _ ap ag)
end
variable{jY:Array ar}
section
variable{H:bk}{pr:List Str}
theorem bB.OT(k:aO H ac Y D s)(P:lp H ac ae pr Y s a0 c3 aR)(v:s.heap.get? a=au)(i:a∉a0)(r:a≠ae.locals)(A:∀d,aR.heap.get? a=I d->d.cls≠.type "tuple"/\∀b,d.data≠.cell b)
  (p:∀y z,y≠a->aR.heap.get? y=I z->fL.get? y=I z):lp H ac ae pr Y s a0 c3 {aR with heap:=fL,toks:=t}:=by
 let E:=P.aK;let V:H.base.get? a=au:=by
  rcases l:H.base.get? a with _|d
  .rfl
  rw[k.dy _ _ l] at v;cases v
 let h:∀y∈eH ac,y≠a:=λy C l=>by obtain⟨_,d,Q,_⟩:=k.fm.mem C;rw[l,v] at Q;cases Q
 let bn:cF aR.heap fL:=cF.of λy d Q U=>p y d (λl=>by rw[l] at Q;show(A d Q).1 U) Q;show#[#[E.sim.turn bn λy C d Q=>p y d (λl=>i (l▸C)) Q,λy d Q=>p y d (λl=>by rw[l,V] at Q;cases Q) (E.dy y d Q),xh E.fm λy C d Q=>p y d (h y C) Q,E.apart,λy C d Q=>?_],#[P.ext.pre,λy d Q C=>?_,λy d Q=>?_],λu c q=>(P.pr u c q).but r A p,P.os,P.gens]
 .obtain⟨_,B,J,_⟩:=E.fm.mem C;have:=p y B (h y C) J;rw[Q] at this;rw[bR this];show E.hY y C B J
 .let r:y≠a:=λl=>by rw[l,v] at Q;cases Q
  show(P.ext.keep y d Q C).trans λB J=>.inl (p y B r J)
 .let r:y≠a:=λl=>by rw[l,v] at Q;cases Q
  obtain⟨B,J,U⟩:=P.ext.qw y d Q;show#[B,p y B r J,U]
def Gj{m:Nat}(k:aO H ac Y D s)(P:df H ac Y s a0 c3 aR)(v:s.heap.get? d0=au)(i:d0∉a0)(T:IsL aR.heap d0 jY m)(q:bo H.ai a0 aR.heap jR jY.toList):
  df H ac Y s (a0++[d0]) (c3++[.list jR]) aR/\∀z,aP H.ai (a0++[d0]) z ⇑c3.length ⇑d0:=
 #[bB.take k P v i #[jY,m,T,bo.aD (λa a a u=>u) (λU E z=>m6 z) _ _ q],λz=>by show#[_,P.aK.sim.len▸tx,j]]
theorem PN{dc:bA aC}{Q:ar}{Z:ii H.ai}(N:ac=iW::pS)(r:iW.frame=I b6)(f:co.frame=I b6)(k:aO H ac Y D s)(e:s.heap.get? co.locals=au)
  (p:∀y,gL=.exc y->dc=.exc y)(q:wd H ac Y s b6 d0 co.locals gL (.error Q) aR):
  mV co (λo=>cE iN A (Na "comprehension.variables-let-go" Q co:Sem ar) (λE E=>False) (dN H ac Z Y s dc) o) aR:=by
 obtain⟨B,M,C,u,P3,n,h,v⟩:=q;show#[u,v,λw c=>?_];obtain⟨d,a,z,g,_⟩:=h.b0;let T:=(hQ.but k P3 n e h.off a z g (jB c)).map p;show eb (Xy (cM:=λE E=>False) f k T) (λE E t=>t) λJ x b=>?_;show(b.hl λm i=>by obtain⟨l,rfl⟩:=i;show .inr #[iW,b6,by rw[N];rfl,r,j]).wide k
def l7(p:b5)(U:Nat)(y:aW)(x:Str)(Y:ap):gs->Mine.M (List V)
 |.vs l=>lC (qy p U y x Y) l
 |.kZ i k=>jj (qy p U y x Y) i k 0
def abF(g:b5)(U:Nat)(Y:ap)(q:aW):Option aW->Mine.M gs
 |some e=>match eU g Y "range"&&fo [e] with
  |true=>((ev g U e Y).G eW).G λl=>M.N (gs.vs l)
  |false=>M.ab
 |none=>(ev g U q Y).G nu
def yR(g:b5)(U:Nat)(Y:ap)(q:aW):Mine.M gs:=abF g U Y q (i1 q)
def r8(g p:b5)(U:Nat)(y:aW)(x:Str)(Y:ap)(q:aW){a:Type}(s:List V->Mine.M a):Mine.M a:=(yR g U Y q).G λf=>(l7 p U y x Y f).G s
def abE(i:Nat):Option O->Mine.M gs
 |some (.list vs)=>match aU vs.length with
  |true=>M.N (.kZ i vs.length)
  |false=>M.ab
 |_=>M.ab
inductive zN{bb:Type}(H:bk)(ac:List Env)(Y:List ay)(s:a3)(dc:bA bb)(g:List V->Mine.M bb)(d0:ay)(co:Env)(aR:a3):Prop
 |mk (jR:List V) (c3:aG) (b2:List ay) (jY:Array ar) (m:Nat) (u:Str->Option ar) (e:dc=g jR c3) (P:df H ac Y s b2 c3 aR) (T:s.heap.get? d0=au) (a:s.heap.get? co.locals=au) (b:d0≠co.locals) (O:d0∉b2)
  (c:IsL aR.heap d0 jY m) (x:bo H.ai b2 aR.heap jR jY.toList) (xn:kF co.locals b2 aR.heap) (j:aR.heap.Ns co.locals u):zN H ac Y s dc g d0 co aR
section
variable{iter:aW}{Z:ii H.ai}
theorem AI{af:gs}(aa:c.aM=ak)(V:dm H aB U aF n)(J:dC H aB U c A ac ae n)(k:aO H ac Y D s)(g_:br H.ai ae aj Y s.heap)(ah:f6 aF.sc x=L)(o:jE c.sc aj aF.sc.names=L)(M:kV aF.sc=L)(f:ae.frame=I b6)(ap:dc≠.ab)
  (ao:∀(C:ay)(d:Env)(E:a3),zN H ac Y s dc g C d E->tD (gC aZ H.w) A (dN H ac Z Y s dc) ky cM ⇑C d (.ok .next) E)
  (u:dc=((l7 aF n dP x aj af).G g) bM)(P:df H ac Y s a0 bM ba)(v:s.heap.get? aY=au)(t:df H ac a0 ba a0 bM eK)(al:eK.heap.get? aY=I J1)(j:∀d:Env,aY≠d.locals->f3 aY a0 d eK.heap)(a:zU H (qy aF n dP x aj) aY a0 bM eK.heap (l7 aF n dP x aj af bM)):
  zM (gC aZ H.w) A (dN H ac Z Y s dc) ky cM (.ListComp dP [#[.Name x ks,iter,[],0]] aF.sc pos) aF.sc ae (M' []) (hU ae aF.sc.names []) ⇑aY eK:=by
 obtain⟨aA,p,e5,N,an,z⟩:=J.ok.frame;obtain rfl:=bR (f.symm.trans z);let h:=P.trans t;show PK (J.handled aa) @V J aa f ah o M k v h (g_.go k h) al j a (λl=>ap (u.trans (n3 l))) λC d q E am e T b O=>?_;cases q with
 |ok az=>obtain⟨i,y,ax,aw,m,bs,ag,ar,r,B,as,aq,av⟩:=O;have:=ao C d E #[i,y,ax,aw,m,aq,u.trans (he bs),ag,T,e,b,ar,r,B,as,av];cases ky<;>show this
 |error Q=>have:=PN (iN:=gC aZ H.w) (A:=A) (Z:=Z) (dc:=dc) N an am k e (λy l=>u.trans (wI l)) O;cases ky<;>show this
def Bf{T:String}{O:Array ar}(k:aO H ac a0 bM ba)(v:ba.heap.get? aY=au)(Q:h.get? aY=I {cls:=.type T,data:=.fields O})
  (A:(["enumerate","zip","dict_itemiterator","dict_reverseitemiterator","odict_iterator","itertools.zip_longest","itertools.pairwise"]:List String).contains T=ak/\T≠"frame"/\T≠"tuple")(d:Env)(r:aY≠d.locals):f3 aY a0 d h:=
 CE (λl=>(k.sim.mut l).elim λz h=>nomatch v.symm.trans h.1) r Q j j A
theorem Gi(bC:bC H c.C c.gt K)(aw:c.aM=ak)(aH:dm H aB U c n)(az:dm H aB U aF n)(ag:dC H aB U c A ac ae n)
  (k:aO H ac Y D s)(g_:br H.ai ae aj Y s.heap)(ao:(f6 aF.sc x&&jE c.sc aj aF.sc.names&&kV aF.sc&&gK iter&&mj aF.sc.names aF.sc.names)=L)(av:ae.frame=I b6)
  (u:dc=r8 c aF n dP x aj iter g D)(h:dc≠.ab)
  (ax:∀(aA:ay)(d:Env)(aQ:a3),zN H ac Y s dc g aA d aQ->tD (gC aZ H.w) A (dN H ac Z Y s dc) ky cM ⇑aA d (.ok .next) aQ):
  bu H A (agE (.ListComp dP [#[.Name x ks,iter,[],0]] aF.sc pos) aF.sc ae Kf (M' []) ak (eval iter ae) ky) cM (dN H ac Z Y s dc) s:=by
 let ao:=cd ao;let b:=cd ao.1;let ah:=cd b.1;let af:=cd ah.1;show PR (Bc b.2) (PL ag.ok g_ af.2) (xB ah.2) (Vm ao.2) ?_;unfold r8 yR at u;rcases am:i1 iter with _|Q
 .rw[am] at u;let aq:dc=((ev c n iter aj).G λB=>(nu B).G λaa=>(l7 aF n dP x aj aa).G g) D:=u.trans (congrFun (u6 ..) D);clear u;show nr k aq h (λz=>aH ag k g_ z) λB q aR aY V a0 r aE u=>?_;let v:=oI V.heap;cases B with
  |J O=>
   rcases l:aU O.length with _|_
   .cases h (u.trans (n3 (aN (λy=>(match y with|true=>M.N (.vs O)|false=>M.ab:Mine.M gs) q) l)))
   let ar:dc=((l7 aF n dP x aj (gs.vs O)).G g) q:=u.trans (aN (λy=>((match y with|true=>M.N (.vs O)|false=>M.ab:Mine.M gs).G λaa=>(l7 aF n dP x aj aa).G g) q) l);obtain⟨E,e,aJ,rfl,ap,aP⟩:=(show∃E e n,aY= ⇑E/\IsT V.heap E e n/\bo H.ai aR V.heap O e.toList from aE);show ag7 #[_,ap,j,_,j] ?_;let a:∀y o,V.heap.get? y=I o->(V.heap.push {cls:=.type "tuple_iterator",data:=.fields (gn [⇑E,.int 0 0])}).get? y=I o:=λy o Q=>i9 _ Q
   let f:=nG V.heap (o:={cls:=.type "tuple_iterator",data:=.fields (gn [⇑E,.int 0 0])}) j
   let bn:=cF.keeps a;show AI aw @az ag k g_ af.1 af.2 ah.2 av h ax ar r (qx r v) (bB.keeps (t:=V.toks) r.aK a) f (Bf r.aK v f ()) #[_,λi=>lC (qy aF n dP x aj) (O.drop i),λd=>z2 H d V.heap.objs.size O,O.length,j,λi D=>Jn _,λd=>Iy O,hy l,λd i Y D A cM aC s x al=>by obtain⟨_,a5,e,m,f,_⟩:=x;show wpAny_pyIter_tupleiter f al,λd an=> #[an,E,e,aJ,#[_,f,j,j],bn _ _ _ ap,bo.aD bn (cL.refl _) _ _ aP]]
  |ref i=>
   let u:dc=((abE i q[i]?).G λaa=>(l7 aF n dP x aj aa).G g) q:=u;rcases b7:q[i]? with _|aX
   .rw[b7] at u;cases h u
   rw[b7] at u;cases aX with
   |list O=>
    rcases l:aU O.length with _|_
    .cases h (u.trans (n3 (aN (λy=>(match y with|true=>M.N (.kZ i O.length)|false=>M.ab:Mine.M gs) q) l)))
    let ar:dc=((l7 aF n dP x aj (gs.kZ i O.length)).G g) q:=u.trans (aN (λy=>((match y with|true=>M.N (.kZ i O.length)|false=>M.ab:Mine.M gs).G λaa=>(l7 aF n dP x aj aa).G g) q) l);obtain⟨E,rfl,aV,e,aJ,ap,aP⟩:=fR r.aK aE b7;show ag6 (oY ap) ?_;let a:∀y o,V.heap.get? y=I o->(V.heap.push {cls:=.type "list_iterator",data:=.fields (gn [⇑E,.int 0 0])}).get? y=I o:=λy o Q=>i9 _ Q
    let f:=nG V.heap (o:={cls:=.type "list_iterator",data:=.fields (gn [⇑E,.int 0 0])}) j
    show AI aw @az ag k g_ af.1 af.2 ah.2 av h ax ar r (qx r v) (bB.keeps (t:=V.toks) r.aK a) f (Bf r.aK v f ()) #[_,λaI=>jj (qy aF n dP x aj) i (O.length-aI) aI,λd=>rQ d V.heap.objs.size i,O.length,j,λi D=>VQ,λd=>Iw i O.length,hy l,λd i Y D A cM aC s x al=>by obtain⟨_,E,_,f⟩:=x;show wpAny_pyIter_listiter f al,λd an=> #[an,E,aV,#[_,f,j,j]]]
   |_=>cases h u
  |_=>cases h u
 rw[am] at u;rcases l:eU c aj "range"&&fo [Q] with _|_
 .cases h (u.trans (n3 (aN (λy=>(match y with|true=>((ev c n Q aj).G eW).G λT=>M.N (gs.vs T)|false=>M.ab:Mine.M gs) D) l)))
 let aL:=cd l;obtain⟨a2,a4,rfl⟩:=KA am;let aq:dc=(((ev c n Q aj).G eW).G λT=>(l7 aF n dP x aj (gs.vs T)).G g) D:=u.trans ((aN (λy=>((match y with|true=>((ev c n Q aj).G eW).G λT=>M.N (gs.vs T)|false=>M.ab:Mine.M gs).G λaa=>(l7 aF n dP x aj aa).G g) D) l).trans (congrFun (u6 ..) D));show KD bC @aH ag k g_ aL.1 aL.2 aq.symm h λp q aR V as a6 aS am=>?_;obtain⟨a1,r,aG,aW⟩:=aS;let v:=Be aG;let f:=nG as (o:=vw p.toNat) j;let a:∀y o,V.heap.get? y=I o->(as.push (vw p.toNat)).get? y=I o:=λy o Q=>i9 _ (aG y o Q);let aT:=Bf r.aK v f ();show AI aw @az ag k g_ af.1 af.2 ah.2 av h ax am r (qx r v) (bB.keeps r.aK a) f aT #[_,λi=>lC (qy aF n dP x aj) ((lO p).drop i),λd=>z1 d as.objs.size p.toNat,p.toNat,j,λi D=>Jn _,λd=>Ix p,aW,λd i Y D A cM aC s x al=>by obtain⟨_,_,x⟩:=x;show wpAny_pyIter_rangeiter x al,λd an=> #[an,ff _,by rw[ahi];show f]]
end
end
def lE(O:List V):Mine.M V:=match aU O.length with
 |true=>(M.new (.list O)).G λi=>M.N ⇑i
 |false=>M.ab
section
variable{H:bk}{pr:List Str}
def JJ(z:lE vs D≠.ab):lE vs D=.ok ⇑D.length (D++[.list vs]):=(iu (b:=aU vs.length) (x:=(M.new (.list vs)).G λi=>M.N (V.ref i)) (dc:=lE vs D) j z).2
theorem Qy{q:aW}(bC:bC H c.C c.gt K)(G:c.aM=ak)(w:dm H aB U c n)(V:dm H aB U aF n)(J:dC H aB U c A ac ae n)(k:aO H ac Y D s)(g:br H.ai ae aj Y s.heap)
  (aa:(f6 aF.sc x&&jE c.sc aj aF.sc.names&&kV aF.sc&&gK q&&mj aF.sc.names aF.sc.names)=L)
  (v:m=r8 c aF n dP x aj q lE)(h:m D≠.ab):
  ht H A ac Y s (eval (.ListComp dP [#[.Name x ks,q,[],0]] aF.sc pos) ae) (m D):=by
 obtain⟨av,ay,e5,ax,aw,al⟩:=J.ok.frame;show Gi (ky:=au) bC G @w @V J k g aa al (congrFun v D) h λaq ah E a=>?_;obtain⟨i,ap,aA,az,p,u,f,P,T,e,b,O,ao,am,M,j⟩:=a;show#[u,j,λN an=>?_];obtain⟨d,ag,z,ar,as⟩:=M.b0;let dH:=jB an;let o:∀B,E.heap.get? ah.locals=I B->B.cls≠.type "tuple":=λB Q=>by rw[ag] at Q;injections Q;rw[z];simp
 let bn:cF E.heap N:=cF.of λy d Q aa=>dH y d (λl=>by rw[l] at Q;show o d Q aa) Q;let af:=bB.r7 (t:=E.toks) k P e M.off o dH;let r:=Gj (aR:={E with heap:=N}) k af T O (dH _ _ b ao) (bo.aD bn (cL.refl _) _ _ am);show#[⇑ap.length,_,_,f.trans (JJ (d5 f h)),r.1,r.2 _]
theorem WF{T:List (Str×gz)}(z:q1 x T=L):(T.any λ(U,k)=>U==x&&(k==.local||k==.cell))=ak:=by
 induction T with
 |nil=>rfl
 |cons v q w=>
  obtain⟨e,k⟩:=v;let z:(match(generalizing:=false) b_ e x,k with|true,.local=>ak|true,.cell=>ak|_,_=>q1 x q)=L:=z;split ((e==x&&(k==.local||k==.cell))||q.any λ(U,k)=>U==x&&(k==.local||k==.cell))=ak;rcases l:b_ e x with _|_
  .rw[l] at z;let z:q1 x q=L:=by cases k<;>show z
   rw[beq_eq_false_iff_ne.mpr (oE.mp l)];show w z
  rw[l] at z;cases k with
  | «local» =>cases z
  |cell=>cases z
  |_=>split ((e==x&&ak)||_)=ak;rw[y8];show w z
theorem ae1{q:aW}{as:Pos}(bC:bC H c.C c.gt K)(aI:c.aM=ak)(w:dm H aB U c n)(aU:dm H aB U aF n)(J:eA H aB U c A ac ae n)(k:aO H ac Y D s)(g:br H.ai ae aj Y s.heap)
  (aH:(f6 aF.sc x&&jE c.sc aj aF.sc.names&&kV aF.sc&&gK q&&mj aF.sc.names aF.sc.names)=L)(i:iy pr y=L)(ap:f6 c.sc y=L)(aP:cA jl.line pos.line=L)(aL:q1 y aF.sc.names=L){m:Mine.M bl}
  (v:m=(r8 c aF n dP x aj q lE).G λaa=>M.N (.next (put y aa aj)))(h:m D≠.ab):
  gH H A ac ae pr Y s (exec (.Assign [.Name y jl] (.ListComp dP [#[.Name x ks,q,[],0]] aF.sc pos) as) ae) (m D):=by
 let aS:swapsWith (.ListComp dP [#[.Name x ks,q,[],0]] aF.sc pos) (I (.Name y jl)) as.line ae=pure L:=by
  let bJ:ae.blockKind=.function:=by unfold Env.blockKind;rw[J.at_.ok.kind];rfl
  let bZ:=J.at_.ok.aj y ap;let eT:=rA aP;let aE:=WF aL;split (pure (ae.blockKind==.function&&ae.kindOf y==I .local&&jl.line==pos.line&& !(aF.sc.names.any λ(n,p)=>n==y&&(p==.local||p==.cell))):Sem Bool)=pure L;rw[bJ,bZ,eT,aE];simp
 let v:m D=r8 c aF n dP x aj q (λaY=>(lE aY).G λaa=>M.N (bl.next (put y aa aj))) D:=(congrFun v D).trans ((congrFun (u6 (yR c n aj q) _ _) D).trans (aN (λaD=>((yR c n aj q).G aD) D) (funext λa3=>u6 ..)));rw[exec_Assign_Name_used _ _ _ _ aS];show be (EA (be ?_));show be (eb (Gi (ky:=I (Ej (.Name y jl) ae)) (Z:=kp H.ai ae pr) (cM:=λ_ E=>Ab H ac ae pr Y s (tT H ae) (m D) .next E)
  bC aI @w @aU J.at_ k g aH J.own v h λav d E aw=>?_) (λ_ E aQ=>cK (cK aQ)) λ_ _ o=>o)
 obtain⟨a2,aX,aZ,a4,p,u,f,P,T,e,aG,O,aT,aR,am,aJ⟩:=aw;let r:=Gj k P T O aT aR;show Ev (vD (pr:=pr) J r.1.aK (g.go k r.1) (r.2 _) i ap λaf ag ax=>?_);obtain⟨ar,ah,z,a0,b⟩:=am.b0;let a:d.locals≠ae.locals:=λl=>by obtain⟨m,⟨B,_,_,V,_⟩,_⟩:=g.names;rw[l] at e;cases e.symm.trans V
 let an:d.locals∉aZ++[av]:=λl=>(d9.mp l).elim am.off λl=>aG (fC.mp l).symm;let al:af.heap.get? d.locals=I ar:=(ag.ext.keep _ ar ah (by
  simp only[kp,afr,gm,not_or];show#[a,an])).of (by rw[z];simp)
 obtain⟨B,aC,aA,V,aV⟩:=aJ;let az:=ah.symm.trans V
 injections az
 show#[u,#[_,aC,aA,al,aV],λa1 aq=>?_];let ao:∀B,af.heap.get? d.locals=I B->B.cls≠.type "tuple"/\∀aa,B.data≠.cell aa:=λB Q=>by rw[al] at Q;injections Q;show#[by rw[z];simp,b]
 let ay:=bB.OT (t:=af.toks) k ((r.1.wide k).trans ag) e an a ao (jB aq);show#[.next (put y ⇑aX.length aj),_,_,f.trans (he (JJ (jA (d5 f h)))),ay,j,ax.but a ao (jB aq)]
end
structure ig(H:bk)(aB U:Nat)(K:Frag)(c:b5):Prop where
 jW:bC H c.C c.gt K
 fn:∀x,c.fn x=L->∃r,aT x eG=I r
 cN:zT H c.C
 Dc:Ag H c.C
 CK:ql H aB U c.aM c.ag
structure lZ(H:bk)(aB U:Nat)(c:b5)(n:Nat):Prop where
 e:dm H aB U c n
 t:qn H aB U c n
 a:z6 H aB U c n
 b:z7 H aB U c n
 s:qm H aB U c n
 o:z8 H aB U c n
 p:ws H aB U c n
 x:z_ H aB U c n
 xs:lm H aB U c n
section
variable{H:bk}
def HP{E:Bool}{m:Mine.M aq}(z:(match E,b with|true,ak=>m|_,_=>M.ab) D≠.ab):E=L/\b=ak:=by
 cases E
 .cases z j
 .cases b
  .show#[j,j]
  .cases z j
theorem HO{E:Bool}{m:Mine.M aq}(z:E=L/\b=ak):(match(generalizing:=false) E,b with|true,ak=>m|_,_=>M.ab)=m:=by cases z.1;cases z.2;rfl
def SQ{d:Option (List aW)}{m:List aW->Mine.M aq}(z:(match d,b with|some x,L=>m x|_,_=>M.ab) D≠.ab):∃x,d=I x/\b=L:=by
 cases d
 .cases z j
 .cases b
  .cases z j
  .show#[_,j,j]
theorem SP{d:Option (List aW)}{m:List aW->Mine.M aq}{u:List aW}(z:d=I u)(s:b=L):(match(generalizing:=false) d,b with|some u,L=>m u|_,_=>M.ab)=m u:=by injections z;injections s;rfl
def SN{d:Option mP}{m:mP->Mine.M aq}(z:(match d with|some x=>m x|none=>M.ab) D≠.ab):∃x,d=I x:=by
 cases d
 .cases z j
 .show#[_,j]
theorem SM{d:Option mP}{m:mP->Mine.M aq}{u:mP}(z:d=I u):(match(generalizing:=false) d with|some u=>m u|none=>M.ab)=m u:=by injections z;rfl
def EX(g:b5)(U:Nat)(y:aW)(C:gS)(v:Pos)(Y:ap)(p:aG)(O:List MF):Prop:=ev g (U+1) (.ListComp y O C v) Y p≠.ab->∃x ks q,O=[#[.Name x ks,q,[],0]]
def sl{O:List MF}(z:ev c (n+1) (.ListComp dP O sc p) aj D=.ab):EX c n dP sc p aj D O:=λh=>cH z h
theorem HT{a:List MF}:EX c n dP sc p aj D a:=by
 obtain _|⟨s,O⟩:=a
 .show sl j
 obtain⟨r,q,b,d⟩:=s;cases r with
 |Name u t=>
  obtain _|⟨_,_⟩:=b
  .cases d with
   |negSucc m=>show sl j
   |ofNat m=>
    obtain _|m:=m
    .obtain _|⟨s,O⟩:=O
     .show λe=> #[_,_,_,j]
     show sl j
    show sl j
  show sl j
 |_=>show sl j
def Fg(T:bk)(g:b5)(U:Nat)(r:iH)(M:List Env)(i:Env)(Y:ap)(t:List ay)(s:a3)(p:aG)(Q:aW):Prop:=ev g (U+1) Q Y p≠.ab->ht T r M t s (eval Q i) (ev g (U+1) Q Y p)
def oB(z:ev c (n+1) e aj D=.ab):Fg H c n A ac ae aj Y s D e:=λh=>cH z h
theorem XF(O:ig H aB U K c)(w:lZ H aB U c n)(V:∀C,dm H aB U {c with sc:=C} n):dm H aB U c (n+1):=by
 intro aj an al Y aw D as Q aa k g;let aa:=aa.low;let a:=O.jW.gl;split Fg H c n aj an al Y aw D as Q;cases Q with
 |Constant ac aD v=>show PU k
 |Name u v=>show Wm a.base a.gt aa.ok g k
 |BinOp T A q v=>show Qv a @w.e aa k g j
 |UnaryOp A u v=>cases A with
  |Not=>show QF @w.e aa k g j
  |USub=>show QE @w.e aa k g j
  |_=>show oB j
 |BoolOp A af v=>show w.b aa k g
 |IfExp r E y v=>show QA @w.t @w.e aa k g j
 |Compare T ap aq v=>
  obtain _|⟨A,_|_⟩:=ap
  .show oB j
  .obtain _|⟨q,_|_⟩:=aq
   .show oB j
   .show λh=>Qx a @w.e aa k g (gc h) (g1 (gc h)) h
   .show oB j
  .show oB j
 |Tuple af ac v=>show QH @w.s aa k g j
 |List af v=>show QC @w.s aa k g j
 |Dict ai af v=>intro h;obtain⟨aE,l,i⟩:=SQ h;show Qz @w.p aa k g l i (SP l i) h
 |Subscript B ao v=>
  cases ao with
  |Slice aG aA ar l=>cases ar with
   |none=>show QG a @w.e @w.o aa k g j
   |some _=>show GJ a @w.e aa k g j
  |_=>show GJ a @w.e aa k g j
 |Attribute B E v=>show λh=>Qu O.jW @w.e aa k g (gc h) (g1 (gc h)) h
 |Call am z x v=>
  cases am with
  |Name u l=>
   obtain _|⟨ac,ai⟩:=x
   .intro h;let bs:=gc h;obtain⟨ag,ah⟩:=cd bs;let f:ev c (n+1) (.Call (.Name u l) z [] v) Y=(match(generalizing:=false) b_ u "isinstance",z with
      |true,[Q,r]=>match uH "tuple" r&&eU c Y "tuple" with
       |true=>(ev c n Q Y).G λ
        |.J _=>M.N (.bool L)
        |.none|.bool _|.int _|.str _=>M.N (.bool ak)
        |_=>M.ab
       |false=>M.ab
      |true,_=>M.ab
      |false,z=>match qs c u with
       |some ac=>(jD c n z Y).G λav=>pu c u ac av
       |none=>M.ab):=g1 bs
    rw[f] at h;rcases i:b_ u "isinstance" with _|_
    .rw[i] at f h;obtain⟨ac,ae⟩:=SN h;show Qw O.jW O.fn @w.e @w.s O.CK aa k g ag ah ae (f.trans (SM ae)) (f▸h)
    rw[i] at f h;obtain _|⟨E,_|⟨r,_|_⟩⟩:=z
    .cases h j
    .cases h j
    .let ae:=gc h;show QB O.jW @w.e aa k g ag ah (gx.mp i) (cd ae).1 (cd ae).2 (f.trans (g1 ae)) (f▸h)
    .cases h j
   show oB j
  |Attribute d m ax=>
   obtain _|⟨ac,ai⟩:=x
   .intro h;let bs:=gc h;show QD O.jW O.cN @w.e @w.s O.CK aa k g (cd (cd bs).1).1 (cd (cd bs).1).2 (cd bs).2 (g1 bs) h
   show oB j
  |_=>show oB j
 |ListComp ay az C v=>intro h;obtain⟨u,aH,aC,rfl⟩:=HT h;let l:=HP h;show Qy (aF:={c with sc:=C}) O.jW l.2 w.e (V C) aa k g l.1 (HO l) h
 |_=>show oB j
end
variable{u4:aW->Mine.M aq}{dR:Mine.M aq}
section
variable{H:bk}
def z9(T:bk)(g:b5)(U:Nat)(r:iH)(M:List Env)(i:Env)(Y:ap)(t:List ay)(s:a3)(p:aG)(Q:aW):Prop:=gP g (U+1) Q Y p≠.ab->bu T r (rG Q i (eval Q i)) (d2 T M t s l0 (gP g (U+1) Q Y p)) (fX T M t s (gP g (U+1) Q Y p)) s
def yn(z:gP c (n+1) e aj D=.ab):z9 H c n A ac ae aj Y s D e:=λh=>cH z h
def Kj(w:dm H aB U c n)(J:dC H aB U c A ac ae n)(k:aO H ac Y D s)(g:br H.ai ae aj Y s.heap)(a:gP c (n+1) e aj=(ev c n e aj).G λv=>dp c.C v)(V:rG e ae (eval e ae)=(do let v<-eval e ae;v7 e.pos;M9 [v] (truthy v))):z9 H c n A ac ae aj Y s D e:=ab0 @w J k g a V
theorem X8(O:ig H aB U K c)(w:lZ H aB U c n):qn H aB U c (n+1):=by
 intro r M i Y d D p Q J k g;let J:=J.low;split z9 H c n r M i Y d D p Q;cases Q with
 |UnaryOp A u v=>cases A with
  |Not=>show abZ @w.t J k g j
  |_=>show Kj @w.e J k g j j
 |BoolOp A b v=>show w.a J k g
 |IfExp f E y v=>show abY @w.t J k g j
 |Compare T o N v=>
  obtain _|⟨A,_|_⟩:=o
  .show yn j
  .obtain _|⟨q,_|_⟩:=N
   .show yn j
   .show λh=>abX O.jW.gl @w.e J k g (gc h) (g1 (gc h)) h
   .show yn j
  .show yn j
 |_=>show Kj @w.e J k g j j
def Xb(O:ig H aB U K c)(w:lZ H aB U c n):z6 H aB U c (n+1):=by
 intro r M i Y d D p A b J k g h;let J:=J.low;obtain _|⟨Q,q⟩:=b
 .show NU k j
 show NT @w.t @w.a J k g j h
theorem Xz(O:ig H aB U K c)(w:lZ H aB U c n):z7 H aB U c (n+1):=by
 intro r M i Y t D p A d a J k g h;let J:=J.low
 match d,h with
 |[],h=>cases h j
 |[Q],h=>show w.e J k g h
 |Q::f::q,h=>show On @w.e @w.b J k g j h
def X7(O:ig H aB U K c)(w:lZ H aB U c n):qm H aB U c (n+1):=by
 intro r M i Y t D p b a J k g h;let J:=J.low;obtain _|⟨Q,q⟩:=b
 .show aak k j
 show Z6 @w.e @w.s J k g (gc h) (g1 (gc h)) h
def XR(O:ig H aB U K c)(w:lZ H aB U c n):z8 H aB U c (n+1):=by
 intro r M i Y t D p u J k g h;let J:=J.low;obtain _|Q:=u
 .show WS k j
 show WT @w.e J k g j h
theorem XS(O:ig H aB U K c)(w:lZ H aB U c n):ws H aB U c (n+1):=by
 intro r M i Y t D l d b a J k g h;let J:=J.low
 match d,b,h with
 |[],[],h=>show W' k j
 |f::d,Q::b,h=>show W9 @w.e @w.p J k g j h
 |[],_::_,h=>cases h j
 |_::_,[],h=>cases h j
theorem PJ(z:AH x p e=L):jP e=L\/∃y a C l,e=.ListComp y a C l/\cA p.line l.line=L/\q1 x C.names=L:=by
 cases e with
 |ListComp y a C l=>obtain⟨f,o⟩:=dj.mp z;show .inr #[y,a,C,l,j,f,o]
 |SetComp=>cases z
 |DictComp=>cases z
 |_=>show .inl j
theorem ae'{l:Pos}{b:List Str}(w:dm H aB U c n)(J:eA H aB U c A ac ae n)(d:aO H ac Y D s)(g:br H.ai ae aj Y s.heap)(i:jP e=L)(y:Cn e=L)(O:c.aM=ak){m:Mine.M bl}
  (v:m=(ev c n e aj).G λB=>(M.opt (hd b c.sc (.Tuple tb k l) B aj)).G λu=>M.N (.next u))(h:m D≠.ab):
  gH H A ac ae b Y s (exec (.Assign [.Tuple tb k l] e p) ae) (m D):=by
 show ahC (nr d (congrFun v D) h (λz=>w J.at_ d g z) λB q x a V T r o f=>?_) (by cases e<;>first|rfl|show cY i) (by cases e<;>first|rfl|show cY y)
 rcases C:hd b c.sc (.Tuple tb k l) B aj with _|u
 .rw[C] at f;cases h f
 rw[C] at f;show F0 (pr:=b) J (J.at_.handled O) r.aK (g.go d r) o C λQ t E=> #[.next u,q,x,f,T.trans t,j,E]
def Fz(g:b5)(U:Nat)(pr:List Str)(a:List dF)(v:Pos)(Y:ap)(p:aG)(G:List MG)(o f:List dF):Prop:=ex g (U+1) pr (.Try a G o f v) Y p≠.ab->∃x q h t T,G=[.ExceptHandler (I (.Name x q)) au (h::t) T]/\o=[]/\f=[]
def p4{G:List MG}{d t:List dF}{f:List Str}(z:ex c (n+1) f (.Try body G d t p) aj D=.ab):Fz c n f body p aj D G d t:=λh=>cH z h
theorem acu{s:List MG}{orelse b:List dF}{f:List Str}:Fz c n f body p aj D s orelse b:=by
 obtain _|⟨⟨m,mr,bd,T⟩,a⟩:=s
 .show p4 j
 obtain _|m:=m
 .show p4 j
 cases m with
 |Name u l=>
  obtain _|_:=mr
  .obtain _|⟨y,C⟩:=bd
   .show p4 j
   obtain _|_:=a
   .obtain _|_:=orelse
    .obtain _|_:=b
     .show λd=> #[_,_,_,_,_,j,j,j]
     .show p4 j
    .show p4 j
   .show p4 j
  .show p4 j
 |_=>show p4 j
def SK{E:Bool}{d:Option V}{m:Int->Mine.M aq}(z:(match E,d with|true,I ↑i=>m i|_,_=>M.ab) D≠.ab):E=L/\∃i,d=I ↑i:=by
 cases E
 .cases z j
 .obtain _|B:=d
  .cases z j
  .cases B
   case int=>show#[j,_,j]
   all_goals show cH j z
theorem SJ{E:Bool}{d:Option V}{m:Int->Mine.M aq}(z:E=L)(s:d=I ↑i):(match(generalizing:=false) E,d with|true,I ↑i=>m i|_,_=>M.ab)=m i:=by injections z;injections s;rfl
theorem HQ{E:Bool}{d:Option aW}(z:(match E,d with|true,_=>M.ab|false,I e=>u4 e|false,au=>dR) D≠.ab):E=ak:=by
 cases E
 .rfl
 .cases z j
theorem SO{E:Bool}{o:Option aW}(z:E=ak):(match(generalizing:=false) E,o with|true,_=>M.ab|false,I e=>u4 e|false,au=>dR)=(match(generalizing:=false) o with|some e=>u4 e|none=>dR):=by injections z;cases o<;>rfl
theorem aeY{l:Pos}{r:List Str}(O:ig H aB U K c)(w:dm H aB U c n)(V:∀C m,m+1=n->dm H aB U c m/\dm H aB U {c with sc:=C} m)(J:eA H aB U c A ac ae n)(k:aO H ac Y D s)(g:br H.ai ae aj Y s.heap)
  (h:ex c (n+1) r (.Assign [.Name x l] e p) aj D≠.ab):gH H A ac ae r Y s (exec (.Assign [.Name x l] e p) ae) (ex c (n+1) r (.Assign [.Name x l] e p) aj D):=by
 let z:=gc h;let f:ex c (n+1) r (.Assign [.Name x l] e p) aj=(ev c n e aj).G λB=>M.N (.next (put x B aj)):=g1 z;obtain⟨v,af⟩:=cd z;obtain⟨Q,o⟩:=cd v;obtain b|⟨y,a,C,T,rfl,b,ag⟩:=PJ af
 .show ae5 @w J k g b Q o f h
 .let i:ev c n (.ListComp y a C T) aj D≠.ab:=jA (f▸h);obtain _|m:=n
  .cases i j
  obtain⟨E,u⟩:=V C m j;obtain⟨aa,t,q,rfl⟩:=HT i;let l:=HP i;let d:ev c (m+1) (.ListComp y [#[.Name aa t,q,[],0]] C T) aj=r8 c {c with sc:=C} m y aa aj q lE:=HO l;rw[d] at f;show ae1 (aF:={c with sc:=C}) O.jW l.2 E u J.low k g l.1 Q o b ag f h
def Fh(T:bk)(g:b5)(U:Nat)(r:iH)(M:List Env)(i:Env)(Y:ap)(pr:List Str)(t:List ay)(s:a3)(p:aG)(x:dF):Prop:=ex g (U+1) pr x Y p≠.ab->gH T r M i pr t s (exec x i) (ex g (U+1) pr x Y p)
def lI{f:List Str}{u:dF}(z:ex c (n+1) f u aj D=.ab):Fh H c n A ac ae aj f Y s D u:=λh=>cH z h
theorem Yl(O:ig H aB U K c)(w:lZ H aB U c n)(V:∀C m,m+1=n->dm H aB U c m/\dm H aB U {c with sc:=C} m)(a:lm H aB U {c with aM:=L,ag:=λ_ _=>M.ab} n):z_ H aB U c (n+1):=by
 intro aa ac i Y f af D p u J k g;let J:=J.low;split Fh H c n aa ac i Y f af D p u;cases u with
 |Expr Q v=>show λh=>ae2 @w.e J k g (gc h) (g1 (gc h)) h
 |Return Q v=>cases Q with
  |none=>show λ_=>ae8 k j
  |some Q=>show ae7 @w.e J k g j
 |Assign q Q v=>
  obtain _|⟨r,q⟩:=q
  .show lI j
  cases r with
  |Name u l=>
   obtain _|_:=q
   .show aeY O @w.e V J k g
   .show lI j
  |Attribute d E l=>
   obtain _|_:=q
   .show λh=>aeZ O.jW @w.e J k g (gc h) (g1 (gc h)) h
   .show lI j
  |Subscript d ae l=>
   obtain _|_:=q
   .show λh=>ae9 O.Dc @w.e J k g (cd (gc h)).1 (g1 (gc h)) h
   .show lI j
  |Tuple ai ah l=>
   obtain _|_:=q
   .intro h;let z:=cd (gc h);show ae' @w.e J k g (cd z.1).1 (cd z.1).2 ((p8 _).mp z.2) (g1 (gc h)) h
   .show lI j
  |_=>show lI j
 |AugAssign r A Q v=>
  cases r with
  |Name u l=>
   cases A with
   |Add=>intro h;obtain⟨z,ae,G⟩:=SK h;show ae0 @w.e J k g G z (SJ z G) h
   |_=>show lI j
  |_=>show lI j
 |If r E y v=>show ae4 @w.t @w.xs J k g j
 |For r N x orelse v=>
  obtain _|_:=orelse
  .show λh=>ae3 O.jW (HQ h) @w.e @w.xs J k g (SO (o:=i1 N) (u4:=Ho c n (jd c n f r x) Y) (dR:=Hn c n (jd c n f r x) Y N) (HQ h)) h
  .show lI j
 |Raise Q B v=>
  obtain _|Q:=Q
  .show lI j
  obtain _|_:=B
  .show ae6 O.jW J k j
  .show lI j
 |Try x s orelse b v=>intro h;obtain⟨u,l,z,r,T,rfl,rfl,rfl⟩:=acu h;show ae_ O.jW @w.xs @a J k g j h
 |_=>show lI j
def Ym(O:ig H aB U K c)(w:lZ H aB U c n):lm H aB U c (n+1):=by
 intro r M i Y f t D p e J k g h;let J:=J.low;obtain _|⟨u,q⟩:=e
 .show aff k g j
 show afe @w.x @w.xs J k g j h
def Xn:lZ H aB U c 0:=
 #[λa a a z=>cH j z,λa a a z=>cH j z,λa a a z=>cH j z,λa a a z=>cH j z,λa a a z=>cH j z,
  λa a a z=>cH j z,λa a a z=>cH j z,λa a a z=>cH j z,λa a a z=>cH j z]
theorem ig.scope(O:ig H aB U K c)(C:gS):ig H aB U K {c with sc:=C}:= #[O.jW,O.fn,O.cN,O.Dc,O.CK]
theorem ig.Tf(O:ig H aB U K c):ig H aB U K {c with aM:=L,ag:=λa a=>M.ab}:= #[O.jW,O.fn,O.cN,O.Dc,λa a a a a a a a a a a a a a a a a z=>cH j z]
theorem N6:∀(b:Nat),∀g,ig H aB U K g->∀m,m<=b->lZ H aB U g m:=by
 intro b
 induction b with
 |zero=>intro g O m i;rw[y'.mp i];show Xn
 |succ b f=>
  intro g O m i;obtain z|z:=Nat.lt_or_ge m (b+1)
  .show f g O m (Nat.lt_succ_iff.mp z)
  .have:m=b+1:=y_ i z;subst this;let w:=f;let a:=w g O b (bq _);show#[XF O a λC=>(w _ (O.scope C) b (bq _)).e,X8 O a,Xb O a,Xz O a,X7 O a,XR O a,XS O a,
    Yl O a (λC m i=> #[(w g O m ()).e,(w _ (O.scope C) m ()).e]) (w _ O.Tf b (bq _)).xs,Ym O a]
end
variable{left:List V}{kU:List Int}{mZ:Array Int}{eD:Array ea}{fN:Int}{aa:List V}
section
variable{H:bk}
inductive zZ(n:Nat):V->Int->Prop
 |int (i:Int):zZ n ↑i (Eo i)
 |J (vs:List V) (cz:List Int) (q:dw.hashes n vs=I cz):zZ n (.J vs) (Es (nF cz))
theorem xz{u:V}{E:Int}(Q:dw (n+1) u=I E):zZ n u E:=by
 cases u with
 |int i=>show bR Q▸↑i
 |J O=>
  let Q:(match dw.hashes n O with|some h=>I (Es (nF h))|none=>au)=I E:=Q;revert Q;rcases l:dw.hashes n O with _|h
  .show db
  show λQ=>bR Q▸.J O h l
 |_=>show db Q
inductive zY(n:Nat):List V->List Int->Prop
 |nil:zY n [] []
 |cons (v:V) (vs:List V) (h:Int) (cz:List Int) (p:dw n v=I h) (q:dw.hashes n vs=I cz):zY n (v::vs) (h::cz)
def Il{u:List V}{E:List Int}(Q:dw.hashes (n+1) u=I E):zY n u E:=by
 obtain _|⟨B,O⟩:=u
 .show bR Q▸.nil
 let Q:(match dw n B,dw.hashes n O with|some z,I h=>I (z::h)|_,_=>au)=I E:=Q;revert Q;rcases v:dw n B with _|z
 .show db
 rcases l:dw.hashes n O with _|h
 .show db
 show λQ=>bR Q▸.cons B O z h v l
inductive E2(ai:ay)(Y:List ay)(g:bj)(k:Nat)(kU:List Int)(y:ar)(eu:List ar):Prop
 |mk (av:Nat) (v:V) (vs:List V) (a:Int) (as:List Int) (b:k=av+1) (j:kU=a::as) (p:dw av v=I a) (q:dw.hashes av vs=I as) (D:aP ai Y g v y) (c:bo ai Y g vs eu):E2 ai Y g k kU y eu
theorem Bw{s:bj}{e:ar}{J:List ar}(Q:dw.hashes k left=I kU)(q:bo ai Y s left (e::J)):E2 ai Y s k kU e J:=by
 obtain _|k:=k
 .show db Q
 induction Il Q with
 |nil=>show nomatch q
 |cons B O E G v l=>
  obtain⟨a,T,d,D,c⟩:=q;injection d with f o
  show#[k,B,O,E,G,j,j,v,l,f▸D,o▸c]
theorem Bx{s:bj}(Q:dw.hashes k left=I kU)(q:bo ai Y s left []):kU=[]:=by
 obtain _|k:=k
 .show db Q
 induction Il Q with
 |nil=>rfl
 |cons B O E G v l=>obtain⟨a,T,d,D,c⟩:=q;show nomatch d
def zX(n:ay)(t:List ay)(s:bj)(U:Nat):Prop:=∀(x y:V)(c:ar)(a b:Int),dw U x=I a->dw U y=I b->aP n t s x c->aP n t s y c->a=b
def wk(n:ay)(t:List ay)(s:bj)(U:Nat):Prop:=∀(x y:List V)(c:List ar)(a b:List Int),dw.hashes U x=I a->dw.hashes U y=I b->bo n t s x c->bo n t s y c->a=b
def W3{s:bj}(z:zX ai Y s n)(o:wk ai Y s n):wk ai Y s (n+1):=λu e a E y f d D c=>by
 obtain _|⟨a,C⟩:=a
 .show(Bx f D).trans (Bx d c).symm
 obtain⟨A,B,O,g,h,b,j,v,l,bs,i⟩:=Bw f D;obtain⟨x,G,t,p,w,k,m,H,T,q,r⟩:=Bw d c;cases b;cases k;show j.trans ((congr (aN _ (z _ _ _ _ _ v H bs q)) (o _ _ _ _ _ l T i r)).trans m.symm)
def T_{s:bj}{m:Nat}(T:IsT s a xs n)(M:IsT s a jY m):xs=jY:=by let Q:=aN Obj.data (bR (T.symm.trans M));injection Q
theorem W1{s:bj}(o:wk ai Y s n):zX ai Y s (n+1):=λu w a E y f d D c=>by
 induction xz f with
 |int q=>
  obtain⟨t,D⟩:=D
  induction xz d with
  |int b=>obtain⟨V,c⟩:=c;injection D.symm.trans c with Q;show aN _ Q
  |J k h l=>obtain⟨_,_,_,Q,_⟩:=c;show nomatch D.symm.trans Q
 |J O h l=>
  obtain⟨v,e,m,D,T,g⟩:=D
  induction xz d with
  |int b=>obtain⟨V,c⟩:=c;show nomatch D.symm.trans c
  |J k i j=>
   obtain⟨N,G,r,Q,M,p⟩:=c;injection D.symm.trans Q with Q
   show aN (λu=>Es (nF u)) (o _ _ _ _ _ l j g (T_ T (Q▸M)▸p))
theorem Tk{s:bj}(U:Nat):zX ai Y s U/\wk ai Y s U:=by
 induction U with
 |zero=>show#[λa a a a a Q=>db Q,λa a a a a Q=>db Q]
 |succ U w=>show#[W1 w.2,W3 w.1 w.2]
def wj(T:bk)(c:List ay)(U:Nat):Prop:=∀(x:V)(b:ar)(a:Int)(A:iH)(s:a3)(cM:Int->a3->Prop)(bf:ar->a3->Prop),dw U x=I a->A.units+U<kB->aP T.ai c s.heap x b->(∀t,cM a {s with toks:=t})->bu T A (pyHash b) cM bf s
inductive tI(H:bk)(Y:List ay)(s:a3)(n:Nat)(cz:List Int):List ar->Array Int->a3->Prop
 |mk (left:List V) (kU:List Int) (k t:Nat) (eu:List ar) (mZ:Array Int) (O:k<=n) (e:dw.hashes k left=I kU) (r:bo H.ai Y s.heap left eu) (d:mZ.toList++kU=cz):tI H Y s n cz eu mZ {s with toks:=t}
def Tc{h:List Int}{e:ar}{J:List ar}{d:Int->a3->Prop}(w:∀m,m<=n->wj H Y m)(f:A.units+(n+1)<kB)(z:tI H Y s n h (e::J) mZ aR)(k:∀(E:Int) aR,tI H Y s n h J (mZ.push E) aR->d E aR):
  bu H A.in1 (pyHash e) d bf aR:=by
 obtain⟨left,c,p,r,J,mZ,O,Q,q,o⟩:=z;obtain⟨a,B,t,E,G,b,j,v,l,bs,i⟩:=Bw Q q;let g:a<=n:=hH (b▸O:a+1<=n);show w a g B e E A.in1 {s with toks:=r} _ _ v (rB (by rw[MB,fD,j1 1];show e3 (hJ g) _) f) bs λV=>k E _ #[t,G,a,V,J,_,g,l,i,by rw[EC,ez];show(aN (mZ.toList++ ·) j.symm).trans o]
def Tb{h:List Int}(z:tI H Y s n h [] mZ aR):mZ.toList=h/\∃r,aR={s with toks:=r}:=by obtain⟨left,c,p,r,J,mZ,O,Q,q,d⟩:=z;rw[Bx Q q,dS] at d;show#[d,r,j]
theorem Tl(w:∀m,m<=n->wj H Y m):wj H Y (n+1):=λu a k t D d U Q f q z=>by
 induction xz Q with
 |int i=>obtain⟨r,q⟩:=q;show q▸wpAny_pyHash_int (z _)
 |J O h l=>
  obtain⟨y,e,m,q,T,g⟩:=q;subst q;let o:D.TypeIs ⇑y "tuple":= #[_,T,j];split cE _ _ (agQ ⇑y) _ _ _;delta agQ;show be (wpAny_cRoomFor_or (.inr (rB (bv _ _) f)) ?_);show be (ag9 o Eb.lookup ?_);split cE _ _ (if(I (Value.builtin "tuple.__hash__")==I agn)=L then _ else _) d U D;rw[aS (by rw[beq_builtin_none];show kA)];show be (ag9 o Eb.lookup ?_);split cE _ _ (callSpecialIfBoundUnlessNone? ⇑y "__hash__" _>>=_) d U D;show be (wpAny_callSpecialIfBoundUnlessNone?_slot o Eb (zA Eb o F.entry_tuple_hash ?_ (F.args_tuple_hash_1 _)));split cE _ _ (afY ⇑y>>=_) _ _ D;show be (wpAny_tupleItemsOf T j (be ?_));rw[<-Array.forIn_toList];show wpAny_forIn_list _ (tI H Y D n h) _ (λA v b E c=>?_) (λb E c=>?_) _ _ #[O,h,n,D.toks,_,_,bq _,l,g,j]
  .show be (Tc w f c λk E c=>cK c)
  .obtain⟨p,r,s⟩:=Tb c;subst s;split cE _ _ (retInt (nF b.toList)) _ _ _;rw[p];show wpAny_ret_mkInt ?_;split cE _ _ (if(↥(-(2:Int)^63<=nF h)&& ↥(nF h<2^63))=L then _ else _) d U _;let z:∀r,d (if(↥(-(2:Int)^63<=nF h)&& ↥(nF h<2^63))=L then _ else _) {D with toks:=r}:=z;by_cases x:(↥(-(2:Int)^63<=nF h)&& ↥(nF h<2^63))=L
   .rw[aL x];rw[aL x] at z;show cK (z _)
   .rw[aS x];rw[aS x] at z;show be (v8 (cK (z _)))
theorem H6(U:Nat):∀m,m<=U->wj H Y m:=by
 induction U with
 |zero=>show λm i u a E r D d b Q=>by cases y'.mp i;show db Q
 |succ U w=>
  intro m i;obtain _|m:=m
  .show λu a E r D d b Q=>db Q
  show Tl λc s=>w c (ao s (el i))
def Hc{x:ay}{d:Option Nat->a3->Prop}(N:s.heap.get? x=I o)(G:o.data=.dict eD AW)(r:∀Q∈eD,Q.hash≠fN)(O:∀Q∈eD,Q.key= ⇑a->Q.hash=fN)(z:d au s):
  bu H A (dictFind x ⇑a fN) d bf s:=by
 let t:placesWithHash eD.size (λi=>eD[i]?.map (·.hash)) fN=[]:=by show List.filter_eq_nil_iff.mpr λi c l=>?_;obtain⟨Q,V,b⟩:=zf.mp (beq_iff_eq.mp l);show r Q (Array.mem_of_getElem? V) b
 let k:¬(eD.any λQ=>Q.key== ⇑a&&Q.hash !=fN)=L:=λl=>by obtain⟨i,J,U⟩:=Array.any_eq_true.mp l;let U:=cd U;show bne_iff_ne.mp U.2 (O _ (Array.getElem_mem J) (beq_iff_eq.mp U.1))
 delta dictFind;show iK (be (wpAny_dictEntries N G ?_));dsimp only;rw[t];rw[aS k];show cK z
theorem KV:∀{b:List (V×V)}{i:List ea},lr ai Y h b i->∀Q∈i,∃v∈b,aP ai Y h v.1 Q.key/\dw 9 v.1=I Q.hash:=by
 intro b
 induction b with
 |nil=>
  intro i q Q d
  injections q;cases d
 |cons r b w=>
  obtain⟨p,B⟩:=r;intro i q Q d;obtain⟨J,g,rfl,D,c,z,a⟩:=q;obtain rfl|d:=gm.mp d
  .show#[(p,B),ti ..,D,c]
  .obtain⟨v,t,bZ⟩:=w a Q d;show#[v,mI _ t,bZ]
def Wz{p B:V}{q:List (V×V)}:jQ fN ((p,B)::q)=(match dw 9 p with|some aI=>(match↥(aI=fN) with|true=>ak|false=>jQ fN q)|none=>ak):=j
theorem WA:∀{b:List (V×V)},jQ fN b=L->∀v∈b,∀N,dw 9 v.1=I N->N≠fN:=by
 intro q
 induction q with
 |nil=>show nofun
 |cons r q w=>
  obtain⟨p,B⟩:=r;intro z v t N Q;rw[Wz] at z;rcases l:dw 9 p with _|f
  .rw[l] at z;cases z
  rw[l] at z;let z:(match(generalizing:=false) decide (f=fN) with|true=>ak|false=>jQ fN q)=L:=z;rcases i: ↥(f=fN) with _|_
  .rw[i] at z;obtain rfl|t:=gm.mp t
   .rw[l] at Q;obtain rfl:=bR Q;show rM i
   .show w z v t N Q
  rw[i] at z;cases z
theorem ZA:∀{b:List (V×V)}{i:List ea},lr ai Y h b i->i.length=b.length:=by
 intro b
 induction b with
 |nil=>intro i q;obtain rfl:i=[]:=q;rfl
 |cons r b w=>obtain⟨p,B⟩:=r;intro i q;obtain⟨J,g,rfl,D,c,z,a⟩:=q;simp[w a]
theorem ZB{p B:V}{Q:ea}(f:aP ai Y h p Q.key)(o:dw 9 p=I Q.hash)(M:aP ai Y h B Q.val):∀{b:List (V×V)}{i:List ea},lr ai Y h b i->lr ai Y h (b++[(p,B)]) (i++[Q]):=by
 intro b
 induction b with
 |nil=>intro i q;obtain rfl:i=[]:=q;show#[Q,[],j,f,o,M,j]
 |cons r b w=>obtain⟨k,E⟩:=r;intro i q;obtain⟨J,g,rfl,D,c,z,a⟩:=q;show#[J,_,j,D,c,z,w a]
theorem Dv{b:List (V×V)}(q:fW H.w H.ai Y h b0 a)(Q:b0=.ef b\/(b0=.aX []/\b=[])):fW H.w H.ai Y h (.ef b) a:=by
 obtain rfl|⟨rfl,rfl⟩:=Q
 .show q
 .obtain⟨n,⟨d,i,D,N,T,G,O,t,v⟩,c,_⟩:=q;subst c;have:i.toList=[]:=vO.mp (by rw[t.length];rfl);show#[d,i,D,N,T,G,by rw[this];rfl]
def LI{d:ay}{b:List (V×V)}(u:lr H.ai Y s.heap b eD.toList)(N:aP H.ai Y s.heap (.J aa) ⇑a)(x:dw 9 (.J aa)=I fN)(e:jQ fN b=L):
  (∀Q∈eD,Q.hash≠fN)/\∀Q∈eD,Q.key= ⇑a->Q.hash=fN:=by
 show#[λQ c=>?_,λQ c O=>?_]
 .obtain⟨v,t,_,o⟩:=KV u Q (zq.mpr c);show WA e v t _ o
 .obtain⟨v,t,f,o⟩:=KV u Q (zq.mpr c);rw[O] at f;show(Tk 9).1 _ _ _ _ _ o x f N
inductive zS(C:List O)(D:aG)(o:V)(aa:List V)(e:V):bA V->Prop
 |mk (es:List (V×V)) (b0:O) (fN:Int) (q:dx C D o=I b0) (B:b0=.ef es\/(b0=.aX []/\es=[])) (x:dw 9 (.J aa)=I fN) (v:jQ fN es=L):zS C D o aa e (.ok e D)
theorem S1{d Q:V}:kT C d (.J aa) Q D≠.ab->zS C D d aa Q (kT C d (.J aa) Q D):=by
 delta kT M.get;dsimp only;generalize T:dx C D d=u;generalize r:dw 9 (.J aa)=z;intro h;obtain _|a:=u
 .cases h j
 cases a with
 |aX b=>
  obtain _|⟨c,q⟩:=b
  .obtain _|m:=z
   .cases h j
   show .mk [] _ m T (.inr #[j,j]) r j
  cases h j
 |ef b=>
  obtain _|m:=z
  .cases h j
  revert h;dsimp only;generalize v:jQ m b=y;obtain _|_:=y
  .show λh=>cH j h
  show λe=>.mk b _ m T (.inl j) r v
 |_=>cases h j
theorem ab5(e:gT H)(c:iL H C){d:V}{b:List (V×V)}(k:aO H ac Y D s)(a:aP H.ai Y s.heap d d8)(l:dx C D d=I b0)(B:b0=.ef b\/(b0=.aX []/\b=[])):
  ∃x,d8= ⇑x/\(x==rH)=ak/\fW H.w H.ai Y s.heap (.ef b) x:=by
 cases d with
 |ref U=>obtain⟨x,Q,f,q⟩:=fR k a l;show#[x,Q,e.old k f,Dv q B]
 |C h=>
  obtain⟨x,f,o,M⟩:=c h _ l;obtain⟨m,O,Q⟩:=a;let g:=bR (f.symm.trans O);let q:fW H.w H.ai [] H.base (.ef b) x:=by
   obtain Q|Q:=B
   .subst Q;show M
   .obtain⟨Q,J⟩:=Q;subst Q J;show Dv M (.inr #[j,j])
  show#[x,g▸Q,beq_eq_false_iff_ne.mpr o,fW.aD (cF.keeps k.dy) (x3 Y) (λd Q=>k.dy _ _ Q) q]
 |_=>show db l
theorem S4(ag:gT H)(c:iL H C){af Q:V}{q:bA V}(am:A.units+60<kB)(k:aO H ac Y D s)(a:aP H.ai Y s.heap af d8)(N:aP H.ai Y s.heap (.J aa) lQ)(y:aP H.ai Y s.heap Q hn)(z:zS C D af aa Q q):
  bu H A (call (.builtin "dict.get") [d8,lQ,hn]) (fk H ac Y s q) bf s:=by
 obtain⟨b,ap,m,l,B,ae,v⟩:=z;obtain⟨x,f,t,p,i,an,h,T,G,u⟩:=ab5 ag c k a l B;obtain⟨E,e,ao,ah,U,g⟩:=id N;subst f ah;let dH:=LI (d:=x) u N ae v;let aj:MeetsIn aZ H.w (Builtin.«dict.get» #[[⇑x,⇑E,hn],[]]) (λn ab O=>n=A/\O=s/\∀r,ab (.ok (.ret hn)) {s with toks:=r}):=.of_wp λn ab O #[al,o,M]=>by subst al o;change cE _ _ (dictGet x ⇑E>>=_) _ _ _;show be ?_;delta dictGet;show iK (be (H6 (H:=H) (Y:=Y) 9 9 (bq _) (.J aa) ⇑E m _ _ _ _ ae (rB (by rw[MB,fD];show e3 () _) am) N λr=>be (Hc (s:={O with toks:=r}) h G dH.1 dH.2 (cK ?_))));change cE _ _ (ahJ x ⇑E>>=_) _ _ _;show be (wpAny_missed_other t (cK #[hn,j,M r]))
 show M3 Ea #[p,h,T.1] MI (MH _ _ _) aj #[j,j,λr=>fq j k y]
theorem SW(w:gT H)(c:iL H C):zT H C:=by
 intro M t D g r U d p Q e A s f k a N y h;cases p with
 |J b=>show S4 w c f k a N y (S1 h)
 |_=>show S2 w c k a N y (λb z=>nomatch z) h
inductive rV(D:aG)(e:V):V->V->bA Unit->Prop
 |list (n:Nat) (i:Int) (vs:List V) (q:D[n]?=I (.list vs)) (h:(↥(0<=i)&&i7 i.toNat vs.length&&aU i.toNat)=L):rV D e ⇑n ↑i (.ok bL (D.set n (.list (vs.set i.toNat e))))
 |id (n:Nat) (i:Int) (es:List (Int×V)) (q:D[n]?=I (.id es)) (h:aU es.length=L):rV D e ⇑n ↑i (.ok bL (D.set n (.id (d' i e es))))
 |nil (n:Nat) (i:Int) (q:D[n]?=I (.aX [])):rV D e ⇑n ↑i (.ok bL (D.set n (.id [(i,e)])))
 |aX (n:Nat) (x:Str) (es:List (Str×V)) (q:D[n]?=I (.aX es)) (h:aU es.length=L):rV D e ⇑n (.str x) (.ok bL (D.set n (.aX (put x e es))))
 |ef (n:Nat) (aa:List V) (es:List (V×V)) (b0:O) (fN:Int) (q:D[n]?=I b0) (B:b0=.ef es\/(b0=.aX []/\es=[])) (a:dw 9 (.J aa)=I fN) (v:jQ fN es=L) (kU:aU es.length=L):rV D e ⇑n (.J aa) (.ok bL (D.set n (.ef (es++[(.J aa,e)]))))
def aaL(U:Nat)(B:V)(k:Int):Option O->Mine.M Unit
 |some (.list vs)=>match↥(0<=k)&&i7 k.toNat vs.length&&aU k.toNat with
  |true=>M.put U (.list (vs.set k.toNat B))
  |false=>M.ab
 |some (.id es)=>match aU es.length with
  |true=>M.put U (.id (d' k B es))
  |false=>M.ab
 |some (.aX [])=>M.put U (.id [(k,B)])
 |_=>M.ab
def aaS(U:Nat)(B:V)(x:Str):Option O->Mine.M Unit
 |some (.aX es)=>match aU es.length with
  |true=>M.put U (.aX (put x B es))
  |false=>M.ab
 |_=>M.ab
def aaT(U:Nat)(B:V)(H:List V):Option O->Mine.M Unit
 |some (.aX [])=>match dw 9 (.J H) with
  |some _=>M.put U (.ef [(.J H,B)])
  |none=>M.ab
 |some (.ef es)=>match dw 9 (.J H) with
  |some h=>match jQ h es&&aU es.length with
   |true=>M.put U (.ef (es++[(.J H,B)]))
   |false=>M.ab
  |none=>M.ab
 |_=>M.ab
theorem aaV{d p B:V}{q:bA Unit}(Q:dd C d p B D=q)(h:q≠.ab):rV D B d p q:=by
 cases d with
 |ref U=>
  cases p with
  |int i=>
   let Q:q=aaL U B i D[U]? D:=Q.symm.trans #[];rcases T:D[U]? with _|z
   .rw[T] at Q;cases h Q
   rw[T] at Q;cases z with
   |list O=>have l:=iu (b:= ↥(0<=i)&&i7 i.toNat O.length&&aU i.toNat) (x:=M.put U (.list (O.set i.toNat B))) Q h;obtain rfl:=l.2;show .list U i O T l.1
   |id a=>have l:=iu (b:=aU a.length) (x:=M.put U (.id (d' i B a))) Q h;obtain rfl:=l.2;show .id U i a T l.1
   |aX a=>
    obtain _|⟨v,q⟩:=a
    .subst Q;show .nil U i T
    cases h Q
   |_=>cases h Q
  |str u=>
   let Q:q=aaS U B u D[U]? D:=Q.symm.trans #[];rcases T:D[U]? with _|z
   .rw[T] at Q;cases h Q
   rw[T] at Q;cases z with
   |aX a=>have l:=iu (b:=aU a.length) (x:=M.put U (.aX (put u B a))) Q h;obtain rfl:=l.2;show .aX U u a T l.1
   |_=>cases h Q
  |J H=>
   let Q:q=aaT U B H D[U]? D:=Q.symm.trans #[];rcases T:D[U]? with _|z
   .rw[T] at Q;cases h Q
   rw[T] at Q;cases z with
   |ef a=>
    let Q:q=(match dw 9 (.J H) with
     |some c=>match jQ c a&&aU a.length with
      |true=>M.put U (.ef (a++[(.J H,B)]))
      |false=>M.ab
     |none=>M.ab:Mine.M Unit) D:=Q
    rcases r:dw 9 (.J H) with _|m
    .rw[r] at Q;cases h Q
    rw[r] at Q;let l:=iu (b:=jQ m a&&aU a.length) (x:=M.put U (.ef (a++[(.J H,B)]))) Q h;let bs:=cd l.1;obtain rfl:=l.2;show .ef U H a _ m T (.inl j) r bs.1 bs.2
   |aX a=>
    obtain _|⟨v,q⟩:=a
    .let Q:q=(match dw 9 (.J H) with
      |some _=>M.put U (.ef [(.J H,B)])
      |none=>M.ab:Mine.M Unit) D:=Q
     rcases r:dw 9 (.J H) with _|m
     .rw[r] at Q;cases h Q
     rw[r] at Q;subst Q;show .ef U H [] _ m T (.inr #[j,j]) r j j
    cases h Q
   |_=>cases h Q
  |_=>cases h (Q.symm.trans #[])
 |_=>cases h Q.symm
theorem aa1{Q:V}{b:List (V×V)}(af:A.units+60<kB)(k:aO H ac Y D s)(a:aP H.ai Y s.heap ⇑n d8)(N:aP H.ai Y s.heap (.J aa) lQ)(y:aP H.ai Y s.heap Q hn)
  (l:D[n]?=I b0)(B:b0=.ef b\/(b0=.aX []/\b=[]))(ab:dw 9 (.J aa)=I fN)(v:jQ fN b=L)(c:aU b.length=L):
  bu H A (o7 d8 lQ hn) (d2 H ac Y s rU (.ok bL (D.set n (.ef (b++[(.J aa,Q)]))))) bf s:=by
 obtain⟨x,f,O,q⟩:=fR k a l;obtain⟨p,i,ag,h,T,G,u⟩:=Dv q B;obtain⟨E,e,m,ae,U,g⟩:=id N;subst f ae;let dH:=LI (d:=x) u N ab v;let o:s.TypeIs ⇑x "dict":= #[p,h,T.1];let M:i.size<=j9:=vE (ao (ds (ZA u)) (hy c));delta o7;show iK (be (Ez o () (be (Ex (name:=j6 "__setitem__") o Et (zA Et o agH ?_ (agA _ _ _))))));split cE _ _ (ahK "__setitem__" #[[⇑x,⇑E,hn],[]]>>=_) _ _ s;show be (ag4 o ?_);split cE _ _ (zw x ⇑E hn>>=_) _ _ s;show be ?_;delta zw;show iK (be (H6 (H:=H) (Y:=Y) 9 9 (bq _) (.J aa) ⇑E fN _ _ _ _ ab (rB (by rw[MB,fD];show e3 () _) af) N λr=>?_));delta agG;let w:j5 x s.heap (s.heap.update x (Obj.mapDictKeys (·.push #[fN,⇑E,hn]))):=p' ..;let bn:=l6 w h (by rw[T.1];show λz=>nomatch z);let C:=MO G (·.push #[fN,⇑E,hn]);show iK (be (Hc (s:={s with toks:=r}) h G dH.1 dH.2 (be (v8 (aha (s:={s with toks:=r}) h G (cK #[.none,j,cK #[bL,_,Y,j,bB.set (t:=r) k O l (by obtain Q|Q:=B;show Q▸j;show Q.1▸j) #[_,_,_,qa _ h (MP C),T.mapDictKeys _,C,?_] (jB w),trivial]]) (hz:=M))))));rw[EC];show ZB (aP.aD bn (cL.refl _) _ _ N) ab (aP.aD bn (cL.refl _) _ _ y) (lr.aD bn (cL.refl _) _ _ u)
theorem aaR(w:gT H):Ag H C:=by
 intro M t D T V Y d p Q e A s G k a N y h;let g:=aaV j h;clear h;generalize dd C d p Q T=q at g|-
 induction g with
 |list U i O l z=>obtain⟨r,N⟩:=N;let f:=dj.mp z;let o:=dj.mp f.1;show N▸aaN k a l y (bS o.1) (cc o.2) (hy f.2) j
 |id U i b l z=>obtain⟨r,N⟩:=N;obtain⟨E,a,v,n,f,o⟩:=fR k a l;show N▸a▸Lg k v l j f o y (hy z) j
 |nil U i l=>obtain⟨r,N⟩:=N;obtain⟨E,a,v,n,f,o,J⟩:=fR k a l;show N▸a▸Lg (es:=[]) (kvs:=[]) k v l j (J j) j y (ff _) j
 |aX U u b l z=>obtain⟨r,N⟩:=N;obtain⟨E,a,v,n,f,o,_⟩:=fR k a l;show N▸a▸aaO k v l j f o y (hy z) j
 |ef U aa b ab m l B x v c=>show aa1 G k a N y l B x v c
end
variable{l5:List (Str×ar)}{func:Option ay}{code:ar}
theorem RJ{t s:aq->Option aC}(z:∀u∈l,t u=s u):l.filterMap t=l.filterMap s:=by
 induction l with
 |nil=>rfl
 |cons u q w=>rw[zF,zF,z u (.head _),w λe M=>z e (.tail _ M)]
def Jf(u:Str)(B:aq)(q:List (Str×aq)):nA u ((u,B)::q)=I B:=by rw[vQ,fh]
def VB{U:Str}{B:aq}{q:List (Str×aq)}(z:U≠x):nA U ((x,B)::q)=nA U q:=by rw[vQ,beq_eq_false_iff_ne.mpr z]
def NS{c:Type}(xs:List Str)(O:List c):Prop:=(xs.filter λn=>((xs.zip O).lookup n).isNone)=[]/\(xs.filterMap λn=>((xs.zip O).lookup n).map (n,·))=xs.zip O
theorem afg{e:List Str}:∀{O:List aq},e.length=O.length->e.Nodup->NS e O:=by
 induction e with
 |nil=>
  intro O z _;obtain _|⟨_,_⟩:=O
  .show#[j,j]
  cases z
 |cons u e w=>
  intro O z d;obtain _|⟨B,O⟩:=O
  .cases z
  let d:=j0.mp d;let k:=w (tm z) d.2;let C:∀U∈e,nA U ((u,B)::e.zip O)=nA U (e.zip O):=λU v=>VB λl=>d.1 (l▸v);show#[(List.filter_cons_of_neg (by rw[aft,Jf];show kA)).trans ((List.filter_congr λU v=>aN Option.isNone (C U v)).trans k.1),
   (List.filterMap_cons_some (b:=(u,B)) (by rw[aft,Jf];rfl)).trans (aN ((u,B):: ·) ((RJ λU v=>aN (Option.map (U,·)) (C U v)).trans k.2))]
theorem OM{as:List Arg}{nc:List (Option aW)}{eD:List aW}{p:List ar}(t:fd.params= #[[],as,au,[],nc,au,eD])(G:fd.defaults=.none)(e:(as.map (·.arg)).length=p.length)(d:(as.map (·.arg)).Nodup):
  bindArgs fd #[p,[]]=pure ((as.map (·.arg)).zip p):=by
 obtain⟨f,o⟩:=afg e d;let c:¬(↥(p.length>(as.map (·.arg)).length)&&L)=L:=by rw[e,f8 (hp _)];show kA
 cases fd;let t:=id t;let G:=id G;dsimp only at t G;subst t;subst G;let O:∀U:Nat,zE U ([]:List ar)=[]:=λh=>Nl;let i:¬(!(((as.map (·.arg)).take ((as.map (·.arg)).length-(zE (([]:List ar).length-(as.map (·.arg)).length) ([]:List ar)).length)).filter λU=>(((as.map (·.arg)).zip p).lookup U).isNone).isEmpty)=L:=by rw[O,afj,Nat.sub_zero,Mt,f];show kA
 show(aS c).trans ((aS i).trans ?_);let b:∀U:Nat,((as.map (·.arg)).drop U).zip (zE (([]:List ar).length-(as.map (·.arg)).length) ([]:List ar))=[]:=λU=>by rw[O,List.zip_nil_right]
 show wL (a:=((as.map (·.arg)).drop ((as.map (·.arg)).length-(zE (([]:List ar).length-(as.map (·.arg)).length) ([]:List ar)).length)).zip (zE (([]:List ar).length-(as.map (·.arg)).length) ([]:List ar))) (ot:=λg=>(forIn g ((as.map (·.arg)).zip p) _>>=_:Sem _)=_) (b _) ?_;split (pure (((as.map λE:Arg=>E.arg)++[]).filterMap λU=>(((as.map λE:Arg=>E.arg).zip p).lookup U).map (U,·)):Sem (List (Str×ar)))=_;rw[dS];show aN (λu=>(pure u:Sem (List (Str×ar)))) o
structure qk(oJ:a3)(b6:ay)(m:Str->Option ar)(h:List (Str×ay))(cm:Str->Option ar)(s:a3):Prop where
 c:InCallC oJ b6 m h cm s
 k:∃o,s.heap.get? b6=I o/\o.cls=.type "frame"
section
variable{M:oZ}{oJ:a3}{m cm:Str->Option ar}
theorem TM{U:Str}{a:Unit->a3->Prop}(u:qk oJ ae.locals m ae.cells cm s)(O:ae.scope.kind=.function)(o:ae.kindOf U=I .local)
  (z:∀E,qk oJ ae.locals (λe=>if e=U then I v else m e) ae.cells cm E->a bL E):cE M A (Eu ae U v) a bf s:=by
 rw[Nc o (by rw[O];rfl)];obtain⟨d,b,D,N,G,l,w⟩:=id u.c.toInCall.ns;show Cr N G l λh r=>?_;let q:=Cu (x:=U) (cz:=h) (t:=r) (v:=v) u.c.toInCall.ns;let C:j5 ae.locals s.heap (s.heap.update ae.locals (gA U h (.str U r) v)):=p' ..;obtain⟨B,V,f⟩:=u.k;rw[N] at V;obtain rfl:=bR V;let T:(s.heap.update ae.locals (gA U h (.str U r) v)).get? ae.locals=I (gA U h (.str U r) v d):=qa _ N (vn G);show z _ #[#[#[?_,q,λy d Q=>?_,u.c.toInCall.fresh],λp g i=>?_,u.c.apart,u.c.above],_,T,by rw[(yo _ _ _ _ _).1];show f]
 .obtain⟨n,bn,rfl⟩:=u.c.toInCall.same;show#[_,_,j]
 .show C.extBut y d (iG (fF (vW Q) u.c.toInCall.fresh)) (u.c.toInCall.keep y d Q)
 .show(u.c.cell p g i).sameBut C (tk (u.c.above p g (mem_of_lookup i)))
theorem TL{U:Str}{g:ay}{q:Unit->a3->Prop}(u:qk oJ ae.locals m ae.cells cm s)(O:ae.scope.kind=.function)(t:ae.kindOf U=I .cell)(o:ae.cells.lookup U=I g)
  (z:∀E,qk oJ ae.locals m ae.cells (λe=>if e=U then I v else cm e) E->q bL E):cE M A (Eu ae U v) q bf s:=by
 let a:=u.c.above U g (mem_of_lookup o);show wpAny_storeName_cell O t o (u.c.cell U g o) λN f i=>z _ #[#[#[?_,u.c.toInCall.ns.sameBut i (iG a),λy d Q=>?_,u.c.toInCall.fresh],λp r l=>?_,u.c.apart,u.c.above],?_]
 .obtain⟨n,bn,rfl⟩:=u.c.toInCall.same;show#[N,_,j]
 .show i.extBut y d (iG (oX (fF (vW Q) u.c.toInCall.fresh) a)) (u.c.toInCall.keep y d Q)
 .by_cases b:p=U
  .subst b;rw[o] at l;injections l;simpa using f
  .rw[aS b];show(u.c.cell p r l).sameBut i λQ=>b (name_of_addr u.c.apart (mem_of_lookup l) (Q▸mem_of_lookup o))
 .obtain⟨d,w,h⟩:=u.k;show#[d,(i.2 _ (iG a)).trans w,h]
theorem TN(t:Str×ar->PUnit->Sem (ForInStep PUnit))(b:∀U B a,t (U,B) a=(do Eu ae U B;pure (.yield .unit)))(O:ae.scope.kind=.function):
  ∀(h:List (Str×ar))(m cm:Str->Option ar)(D:a3)(d:PUnit->a3->Prop),qk oJ ae.locals m ae.cells cm D->
   (∀u∈h,ae.kindOf u.1=I .local\/(ae.kindOf u.1=I .cell/\(ae.cells.lookup u.1).isSome=L))->
   (∀E,qk oJ ae.locals (v4 ae.kindOf h m) ae.cells (v3 ae.kindOf h cm) E->d .unit E)->cE M A (forIn h .unit t) d bf D:=by
 intro q
 induction q with
 |nil=>intro m cm D d u _ z;rw[List.forIn_nil];show cK (z D u)
 |cons r q w=>
  obtain⟨U,B⟩:=r;intro m cm D d u f z;rw[ahs,b];let x:∀e∈q,ae.kindOf e.1=I .local\/(ae.kindOf e.1=I .cell/\(ae.cells.lookup e.1).isSome=L):=λe l=>f e (mI _ l);obtain c|⟨c,k⟩:=f (U,B) ti
  .show be (be (TM u O c λE T=>cK (w _ _ E d T x λo i=>z o ?_)));unfold v4 v3;rw[aL c,aL c];show i
  .obtain⟨g,k⟩:=ze.mp k;let j:¬ae.kindOf U=I .local:=by rw[c];decide
   show be (be (TL u O c k λE T=>cK (w _ _ E d T x λo i=>z o ?_)));unfold v4 v3;rw[aS j,aS j];show i
def Wr{scope:gS}{c:ay}{d:Env->a3->Prop}(O:scope.kind=.function)
  (f:∀u∈l5,scope.names.lookup u.1=I .local\/(scope.names.lookup u.1=I .cell/\((o5 (s.heap.objs.size+1) scope.names []).lookup u.1).isSome=L))
  (q:∀i,i=newEnv scope s.heap.objs.size globals (o5 (s.heap.objs.size+1) scope.names []) qual func code au c->
   ∀E,qk s i.locals (v4 i.kindOf l5 λn=>au) i.cells (v3 i.kindOf l5 λn=>au) E->d i E):
  cE M A (zy scope globals [] l5 qual func code au c) d bf s:=by
 simp only[zy,Option.isSome_none,Mu,if_false];show be (wpAny_alloc ?_);show be (wpAny_layCells _ (λa e gX=>by cases h:e==o1<;>simp[h]) _ _ _ _ ?_);let b:=cellsFrom_ok scope.names (s.heap.push {cls:=.type "frame",data:=.dict (gn [])}) (s.heap.objs.size+1) [] #[λn n k=>(nomatch k),ah4] (by rw[Ec];show bq _)
 rw[Ec] at b;rw[show({s with heap:=s.heap.push {cls:=.type "frame",data:=.dict (gn [])}}:a3).heap.objs.size=s.heap.objs.size+1 from Ec ..]
 show be (TN (oJ:=s) (ae:=newEnv scope s.heap.objs.size globals (o5 (s.heap.objs.size+1) scope.names []) qual func code au c)
  _ (λn n n=>j) O l5 (λn=>au) (λn=>au) _ _
  #[#[#[#[_,_,j],(Heap.Ns.new s.heap (.type "frame")).keeps (Nb _ _),λy m Q=>Nb _ _ y m (i9 _ Q),bq _],
   λU g l=>(b.empty U g (mem_of_lookup l)).1,b.apart,λU g k=>(b.empty U g k).2],_,Nb _ _ _ _ (nG _ j),j]
  f λE u=>cK (q _ j E u))
end
def Jv{U:Str}{T:List Str}(z:x∉U::T):x≠U/\x∉T:= #[λQ=>z (Q▸.head _),λl=>z (.tail _ l)]
theorem OL{p:Str->Option gz}:∀{m:Str->Option ar},x∉l5.map (·.1)->v4 p l5 m x=m x:=by
 induction l5 with
 |nil=>show λa=>j
 |cons v q w=>
  intro m z;let z:=Jv z;show(w z.2).trans ?_;by_cases l:p v.1=I .local
  .rw[aL l];show aS z.1
  .rw[aS l]
theorem OK{p:Str->Option gz}:∀{m:Str->Option ar},x∉l5.map (·.1)->v3 p l5 m x=m x:=by
 induction l5 with
 |nil=>show λa=>j
 |cons v q w=>
  intro m z;let z:=Jv z;show(w z.2).trans ?_;by_cases l:p v.1=I .local
  .rw[aL l]
  .rw[aS l];show aS z.1
theorem Mn{e:List Str}:∀{n:List aq},e.length=n.length->(e.zip n).map (·.1)=e:=by
 induction e with
 |nil=>show λ{n} b=>by cases n<;>rfl
 |cons u e w=>
  intro n z;obtain _|⟨a,n⟩:=n
  .cases z
  show aN (u:: ·) (w (tm z))
inductive EG(ai:ay)(Y:List ay)(h:bj)(k:Str->Option gz)(xs:List Str)(fS:List ar)(m cm:Str->Option ar)(x:Str)(v:V):Prop
 |mk (u:ar) (r:aP ai Y h v u) (l:k x=I .local->v4 k (xs.zip fS) m x=I u) (c:k x≠I .local->v3 k (xs.zip fS) cm x=I u) (i:x∈xs):EG ai Y h k xs fS m cm x v
theorem ON{k:Str->Option gz}{e:List Str}:∀{O:List V}{n:List ar}{m cm:Str->Option ar},e.Nodup->e.length=O.length->bo ai Y h O n->∀u B,aT u (e.zip O)=I B->EG ai Y h k e n m cm u B:=by
 induction e with
 |nil=>show λ{O n m cm} y y y u B Q=>db (show au=I B from Q)
 |cons i e w=>
  intro O n m cm d c q u B Q;obtain _|⟨A,O⟩:=O
  .cases c
  obtain⟨a,p,rfl,D,v⟩:=(show∃E g,n=E::g/\aP ai Y h A E/\bo ai Y h O g from q);let d:=j0.mp d;let c:e.length=O.length:=tm c;let Q:=(mn u i A (e.zip O)).symm.trans Q;let r:i∉(e.zip p).map (·.1):=by rw[Mn (c.trans v.length.symm)];show d.1
  by_cases l:u=i
  .subst l;rw[aL j] at Q;injection Q with Q
   subst Q;show#[a,D,λt=>(OL r).trans ?_,λt=>(OK r).trans ?_,.head _]
   .show(congrFun (aL t) u).trans (aL j)
   .show(congrFun (aS t) u).trans (aL j)
  .rw[aS l] at Q;obtain⟨s,f,x,M,b⟩:=w (m:=if k i=I .local then λo=>if o=i then I a else m o else m) (cm:=if k i=I .local then cm else λo=>if o=i then I a else cm o) d.2 c v u B Q;show#[s,f,x,M,.tail _ b]
theorem Od{G:List Arg}:∀{O:List V}{Y:ap},kg G O=I Y->Y=(G.map (·.arg)).zip O/\G.length=O.length:=by
 induction G with
 |nil=>
  intro O Y z;obtain _|⟨_,_⟩:=O
  .injection z with z;show#[z.symm,j]
  cases z
 |cons E G w=>
  intro O Y z;obtain _|⟨B,O⟩:=O
  .cases z
  let z:(match kg G O with|some T=>I ((E.arg,B)::T)|none=>au)=I Y:=z;rcases l:kg G O with _|T
  .rw[l] at z;cases z
  rw[l] at z;injection z with z
  let k:=w l;show#[z.symm.trans (aN ((E.arg,B):: ·) k.1),aN j4 k.2]
structure zR(base:bj)(r:ll):Prop where
 obj:∃o,base.get? r.addr=I o/\o.data=.func (sh r.d r.qual nK .none .none .none r.pm ⇑r.code .none tq)
 code:base.CodeRec ⇑r.code r.qual
 args:∃as nc,r.d.args= #[[],as,au,[],nc,au,[]]
 iX:(r.d.args.args.map (·.arg)).Nodup
 kind:r.d.scope.kind=.function
 Wo:r.d.scope.isCoroutine=ak
 ngen:r.d.scope.isGenerator=ak
 par:∀x∈r.d.args.args.map (·.arg),r.d.scope.names.lookup x=I .local\/(r.d.scope.names.lookup x=I .cell/\∀n,((o5 n r.d.scope.names []).lookup x).isSome=L)
section
variable{H:bk}{gt:List (Str×V)}
theorem bB.drop(P:bB H (ae::ac) (kp H.ai ae []) Y ba a0 bM aR)(p:∀y d,s.heap.get? y=I d->ba.heap.get? y=I d)(f:s.heap.get? ae.locals=au)(N:ba.os=s.os)(O:ba.gens=s.gens):
  df H ac Y s a0 bM aR:=by
 show#[#[P.aK.sim,P.aK.dy,P.aK.fm.2.2,λy C=>P.aK.apart y ?_,λy C=>P.aK.hY y ?_],P.ext.narrow p λy C=>?_,trivial,P.os.trans N,P.gens.trans O]
 .obtain⟨Q,V,b⟩:=rv.mp C;show rv.mpr #[Q,mI _ V,b]
 .obtain⟨Q,V,b⟩:=rv.mp C;show rv.mpr #[Q,mI _ V,b]
 .rw[fC.mp C];show f
def Bb(C:List O)(b:List (Str×V))(k:Nat)(a:gS):b5:= #[C,b,jo C b eG k,λx=>(aT x eG).isSome,ak,a]
def K7(C:List O)(b:List (Str×V))(k:Nat)(q:ll):Option ap->Mine.M V
 |some aj=>(eF (Bb C b k q.d.scope) m1 [] q.d.body aj).G λ
  |.ret v=>M.N v
  |.next _=>M.N .none
 |none=>M.ab
def ZM(C:List O)(b:List (Str×V))(k:Nat)(a:List V):Option ll->Mine.M V
 |some r=>K7 C b k r (kg r.d.args.args a)
 |none=>M.ab
structure Nu(n:Nat)(a:gS)(ae:Env):Prop where
 aj:ae.locals=n
 fr:ae.frame=I ae.locals
 sc:ae.scope=a
 gl:ae.globals=nK
 OO:ae.builtins=tq
 ce:ae.cells=o5 (n+1) a.names []
theorem QW(z:ae=newEnv sc n nK (o5 (n+1) sc.names []) qual func code au tq):Nu n sc ae:=by subst z;show#[j,j,j,j,j,j]
theorem Ht{y:ay}(a:ae.frame=I ae.locals)(C:y∈eH (ae::ac)):y=ae.locals\/y∈eH ac:=by
 obtain⟨Q,V,b⟩:=rv.mp C;obtain rfl|V:=gm.mp V
 .show .inl (bR (b.symm.trans a))
 .show .inr (rv.mpr #[Q,V,b])
theorem RL{b:Obj}(k:aO H ac Y D s)(o:∀y d,s.heap.get? y=I d->h.get? y=I d)(O:ae.scope.kind=.function)(a:ae.frame=I ae.locals)(c:s.heap.get? ae.locals=au)(f:ae.locals∉Y)(e:h.get? ae.locals=I b)(g:b.cls=.type "frame")(i:∀m,b.data≠.fields m):Inv H.w H.ai H.base (ae::ac) Y D h:=by
 show#[k.sim.keeps o,λy d Q=>o y d (k.dy y d Q),#[?_,#[ae.locals,b,a,?_,e,i],k.fm.of_keeps λy d Q n=> #[d,o y d Q,j]],λy C=>?_,λy C d Q=>?_]
 .rw[O];intro h;cases h
 .rcases l:H.base.get? ae.locals with _|d
  .rfl
  show nomatch c.symm.trans (k.dy _ _ l)
 .obtain rfl|C:=Ht a C
  .show f
  .show k.apart y C
 .obtain rfl|C:=Ht a C
  .show bR (e.symm.trans Q)▸g
  .obtain⟨_,B,V,_⟩:=k.fm.mem C;show bR ((o y B V).symm.trans Q)▸k.hY y C B V
theorem RN(O:ig H aB U K (Bb C gt k #[.function,[],ak,ak,[]]))(aO:U+60<kB)(bd:aB<agR)(b:∀u q,aT u eG=I q->zR H.base q){av aw:Nat}(bb:av+2<=aB)(bc:aw+210<=U):
  ql H av aw ak (jo C gt eG (k+1)):=by
 intro r M t D al l f ab bs a0 aU aV be bi bh af q h;obtain⟨s,w,rfl⟩:=zf.mp a0;let n:=b l s w;let v:jo C gt eG (k+1) l ab al=ZM C gt k ab (aT l eG) al:=j;rw[w] at v;generalize jo C gt eG (k+1) l ab al=a9 at v h|-;let v:a9=K7 C gt k s (kg s.d.args.args ab) al:=v;rcases ag:kg s.d.args.args ab with _|a6
 .rw[ag] at v;cases h v
 rw[ag] at v;obtain⟨aX,aW⟩:=Od ag;let aF:(s.d.args.args.map (·.arg)).length=ab.length:=(fU _).trans aW;let aG:=aF.trans q.length.symm;obtain⟨a7,aY,aS⟩:=n.obj;obtain⟨G,a5,ay⟩:=n.args;let ap:(s.d.args.args.map (·.arg))=G.map (·.arg):=by rw[ay]
 show codeAny_call_function (A:=r) (o:=a7) (fd:=sh s.d s.qual nK .none .none .none s.pm ⇑s.code .none tq) (body:=s.d.body) () (af.dy _ _ aY) aS n.Wo n.ngen j (n.code.keeps af.dy) ?_;rw[OM (fd:=sh s.d s.qual nK .none .none .none s.pm ⇑s.code .none tq) (as:=G) (nc:=a5) (eD:=[]) ay j (by rw[<-ap];show aG) (by rw[<-ap];show n.iX),<-ap];show cK (Wr (scope:=s.d.scope) n.kind (λu a2=>?_) λi az V J=>?_)
 .let a3:u.1∈s.d.args.args.map (·.arg):=Mn aG▸afn (f:=afR) a2;show(n.par u.1 a3).imp id λz=> #[z.1,z.2 _]
 .let aa:=QW az;clear az;let e:∀u,i.kindOf u=s.d.scope.names.lookup u:=λu=>by unfold af3;rw[aa.sc]
  let aE:i.scope.kind=.function:=aa.sc▸n.kind;let ae:=J.c.toInCall.keep;let ao:D.heap.get? i.locals=au:=aa.aj▸oI D.heap;let aL:∀E∈t,E<D.heap.objs.size:=λE ag=>(af.sim.mut ag).elim λbm z=>vW z.1;let ax:i.locals∉t:=λz=>hp _ (aa.aj▸aL _ z:D.heap.objs.size<D.heap.objs.size);obtain⟨bg,bn,aJ⟩:=J.c.toInCall.same;let aI:V.os=D.os:=by rw[aJ]
  let aA:V.gens=D.gens:=by rw[aJ]
  obtain⟨a8,aH,aP⟩:=J.k;let aR:∀ab,a8.data≠.fields ab:=by obtain⟨bl,ba,a',aZ,aQ,_⟩:=J.c.toInCall.ns;obtain rfl:=bR (aH.symm.trans aZ);intro ab Q;rw[aQ] at Q;cases Q
  let x:=RL af ae aE aa.fr ao ax aH aP aR;let aM:br H.ai i a6 t V.heap:=by
   show#[ax,_,J.c.toInCall.ns,λu B aK=>?_];rw[aX] at aK;obtain⟨aq,p,a,N,an⟩:=ON (k:=i.kindOf) (m:=λ_=>au) (cm:=λ_=>au) n.iX aF (bo.aD (cF.keeps ae) (cL.refl t) _ _ q) u B aK;obtain z|⟨z,aN⟩:=n.par u an
   .let z:=(e u).trans z;show .inl #[z,aq,a z,p]
   .let z:=(e u).trans z;obtain⟨am,ah⟩:=ze.mp (aN (D.heap.objs.size+1));rw[<-aa.ce] at ah;let aC:=J.c.cell u am ah;rw[N (by rw[z];decide)] at aC;show .inr #[.inl z,am,aq,ah,λl=>hp _ (oX (aL _ l) (aa.aj▸J.c.above u am (mem_of_lookup ah))),aC,p]
  let ar:eA H aB U (Bb C gt k s.d.scope) (r.deeper i) (i::M) i m1:=by
   show#[#[#[aE,λu z=>(e u).trans ((mo ..).symm.trans (uG z)),λu z=>(e u).trans ((mo ..).symm.trans (Iz z)),λu z=>(e u).trans ((mo ..).symm.trans (IC z)),aa.gl,aa.OO,i,M,i.locals,j,aa.fr,aa.fr],?_,aV,?_,?_,aO],#[M,j],aa.fr]
   .split r.frames.map (i:: ·)=_;rw[aU]<;>rfl
   .split r.depth+1<=aB;omega
   .split r.units+3+4*50<=U;omega
  show#[(O.jW.gl.base.WE.keeps af.dy).keeps ae,codeAny_func ?_];let a4:=(N6 m1 _ (O.scope s.d.scope) m1 (bq _)).xs (pr:=[]) (xs:=s.d.body) ar x aM (jA (v▸h));show eb a4 (λf a_ z=>?_) λQ a_ z=>?_
  .obtain⟨E,y,g,p,a,N⟩:=z;let P:=a.drop ae ao aI aA;let v:=v.trans (he p);cases E with
   |next bj=>obtain⟨rfl,_⟩:=N;show#[.none,y,g,v,P,j]
   |ret B=>obtain⟨aq,rfl,a1⟩:=N;show#[B,y,g,v,P,a1]
  .show eb (U0 (bf:=λ_ _=>False) (ac:=i::M) ar.at_.frames j aa.fr aa.fr x z) (λ_ bp z=>?_) λ_ _ z=>z.elim;obtain⟨y,g,E,bk,p,a,N,an,T,rfl⟩:=z;show#[y,g,E,_,v.trans (wI p),a,N.drop ae ao aI aA,an.back (d1.keeps (Y:=t) ae),.inl j]
def XH:ql H aB U ak (jo C gt eG 0):=λa a a a a a a a a a a a a a a a a z=>cH j z
theorem XG(W:bC H C gt K)(b:∀u q,aT u eG=I q->zR H.base q)(c:iL H C)(p t a:Nat)(f:t+2*p<=900)(o:a+210*p<=9800):ql H t a ak (jo C gt eG p):=by
 induction p generalizing t a with
 |zero=>show XH
 |succ p w=>have f:t+2+2*p<=900:=ao (ds (nC t 2 (2*p))) f;let o:a+210+210*p<=9800:=ao (ds (nC a 210 (210*p))) o;show RN (aB:=t+2) (U:=a+210) (K:=K) #[W,λu z=>ze.mp z,SW W.gl.base c,aaR W.gl.base,w _ _ f o] (rB (c_ (ao (bv ..) o) 60) (show 9860<kB by decide)) (rB (ao (bv ..) f) (show 900<agR by decide)) b (bq _) (bq _)
end
variable{P:c'}
def x4:Obj:= #[.none,au,.freed,(gn [])]
def h8(P:c')(a:ay):Obj:=((qQ P)[a]?).getD x4
def alive(o:Obj):Bool:=match o with
 | #[_,_,.freed,_]=>ak
 |_=>L
theorem SY(Q:h.objs[a]?=I o)(l:alive o=L):h.get? a=I o:=by unfold Heap.get?;rw[Q];obtain⟨g,x,c,n⟩:=o;cases c<;>first|rfl|cases l
def sm(z:alive (h8 P a)=L):(kS P).get? a=I (h8 P a):=by
 rcases l:(qQ P)[a]? with _|d
 .rw[show h8 P a=x4 from aN (·.getD x4) l] at z;cases z
 let Q:h8 P a=d:=aN (·.getD x4) l;rw[Q] at z;rw[Q];show SY ((List.getElem?_toArray ..).trans l) z
def BQ(Q:ea):Option (Str×ar):=match Q.key with
 |.str x _=>I (x,Q.val)
 |_=>au
def kvsOf:List ea->Option (List (Str×ar))
 |[]=>I []
 |e::r=>match BQ e,kvsOf r with
  |some p,I l=>I (p::l)
  |_,_=>au
def qv(o:Obj):List ea:=match o.data with
 |.dict es _=>es.toList
 |_=>[]
def T0(o:Obj):Bool:=match o.data with
 |.dict _ _=>L
 |_=>ak
def UK{Q:ea}{q:List ea}:kvsOf (Q::q)=(match BQ Q,kvsOf q with|some p,I l=>I (p::l)|_,_=>au):=j
theorem Ct(N:h.get? a=I o)(G:T0 o=L)(O:kvsOf (qv o)=I kvs):h.Ns a (λu=>aT u kvs):=by
 obtain⟨g,x,c,n⟩:=o;cases c with
 |dict b D=>
  let d:∀(T:List ea)(kvs:List (Str×ar)),kvsOf T=I kvs->(∀Q∈T,∃U r,Q.key=.str U r)/\∀u,(T.find? (λQ=>Q.key.isStr u)).map (·.val)=aT u kvs:=by
   intro T
   induction T with
   |nil=>intro kvs Q;injections Q;show#[λk h=>(nomatch h),λu=>j]
   |cons Q q w=>
    intro kvs l;rw[UK] at l;rcases bs:BQ Q with _|v
    .rw[bs] at l;cases l
    rcases i:kvsOf q with _|T
    .rw[bs,i] at l;cases l
    rw[bs,i] at l
    injections l
    obtain⟨s,H⟩:=w T i;obtain⟨m,C,f⟩:=Q;cases C with
    |str u r=>
     injections bs
     show#[λJ V=>?_,λe=>?_]
     .obtain rfl|V:=gm.mp V
      .show#[u,r,j]
      .show s J V
     .rw[ahq,mn];have:MT (.str u r) e= ↥(e=u):=by
       rw[MT];by_cases Q:u=e
       .subst Q;simp
       .rw[f8 (i8 Q)];show beq_eq_false_iff_ne.mpr Q
      rw[this];by_cases Q:e=u
      .simp[Q]
      .simp[Q,H]
    |_=>cases bs
  obtain⟨bJ,bZ⟩:=d _ _ O;show#[_,b,D,N,j,λQ V=>bJ Q ((zq).mpr V),λu=>?_];show p_ ?_ (bZ u);unfold nsFind findBy;rw[<-Array.find?_toList];rfl
 |_=>cases G
def l9{c:Type}(v:c->Bool):List c->Bool
 |[]=>L
 |x::r=>match v x with
  |true=>l9 v r
  |false=>ak
def Q9{v:aq->Bool}{u:aq}{q:List aq}:l9 v (u::q)=(match v u with|true=>l9 v q|false=>ak):=j
theorem pB{v:aq->Bool}:∀{a:List aq},l9 v a=L->∀u∈a,v u=L:=by
 intro q
 induction q with
 |nil=>show nofun
 |cons e q w=>
  intro z u T;rw[Q9] at z;rcases l:v e with _|_
  .rw[l] at z;cases z
  rw[l] at z;obtain rfl|T:=gm.mp T
  .show l
  .show w z u T
set_option tactic.hygienic true in
theorem u2{B:aq}:∀{T:List (Str×aq)},aT x T=I B->(x,B)∈T:=by
 intro q
 induction q with
 |nil=>show nofun
 |cons r q w=>
  obtain⟨e,a⟩:=r;intro z;rw[mn] at z;split at z
  .rename_i Q;injections z;subst Q;show ti ..
  .show mI _ (w z)
def qD(P:c'):List (Str×ar):=(kvsOf (qv (Cw P))).getD []
def po(P:c'):List (Str×ar):=(kvsOf (qv (MY P))).getD []
def ZS(P:c'):List (Str×ar):=(kvsOf (qv (Cv P))).getD []
theorem Di{d:Option aq}{x:aq}(z:d.isSome=L):d=I (d.getD x):=by cases d with
 |none=>cases z
 |some E=>rfl
def sx(a:ay):Option ar->Bool
 |some ⇑b=>cA a b
 |_=>ak
def ux(b:Option ar):V->Bool
 | ↑i=>(match b with|some (.int av _)=> ↥(i=av)|_=>ak)
 |.C k=>(match pE 0 k with|some a=>i7 k 3&&sx a b|none=>ak)
 |_=>ak
theorem uI{b:Option ar}(z:sx a b=L):b=I ⇑a:=by
 obtain _|B:=b
 .cases z
 cases B with
 |ref y=>rw[rA z]
 |_=>cases z
theorem R2{a:ay}(z:i7 k 3=L):pE ai k=pE a k:=by
 match k,z with
 |0,_=>rfl
 |1,_=>rfl
 |2,_=>rfl
theorem TE{a:Option ar}(z:ux a ↑i=L):∃r,a=I (.int i r):=by
 obtain _|B:=a
 .cases z
 cases B with
 |int Y r=>rw[bS z];show#[_,j]
 |_=>cases z
def TD{a:Option ar}(z:ux a (.C k)=L):∃E,i7 k 3=L/\pE 0 k=I E/\a=I ⇑E:=by
 let Q:ux a (.C k)=(match pE 0 k with|some E=>i7 k 3&&sx E a|none=>ak):=j;rw[Q] at z;rcases l:pE 0 k with _|E
 .rw[l] at z;cases z
 rw[l] at z;obtain⟨f,o⟩:=dj.mp z;show#[E,f,j,uI o]
theorem TF{a:Option ar}{B:V}(z:ux a B=L):∃A,a=I A/\∀n t z,aP n t z B A:=by
 cases B with
 |int i=>obtain⟨r,rfl⟩:=TE z;show#[_,j,λb b b=> #[_,j]]
 |C p=>obtain⟨E,f,o,rfl⟩:=TD z;show#[_,j,λn b b=> #[E,(R2 f).trans o,j]]
 |_=>cases z
def R5(P:c'):(kvsOf (qv (Cw P))).isSome=L:= #[]
def Om(P:c'):(kvsOf (qv (MY P))).isSome=L:= #[]
def ZT(P:c'):(kvsOf (qv (Cv P))).isSome=L:= #[]
def SF(P:c'):l9 (λv=>ux (aT v.1 (qD P)) v.2) oc=L:= #[]
def G6(P:c'):l9 (λv=>match vl v.1 with|true=>sx v.2.addr (aT v.1 (qD P))|false=>L) eG=L:= #[]
def Pe(P:c'):(sx 79 (aT "KindTable" (qD P))&&sx 334 (aT "Splitter" (qD P)))=L:= #[]
def Wl(P:c'):l9 (λ(u:Str)=>(aT u (qD P)).isNone) ["len","tuple","list","str","isinstance","range","ValueError"]=L:= #[]
def qq(P:c'):aT "len" (po P)=I (.builtin "len")/\aT "isinstance" (po P)=I (.builtin "isinstance")/\aT "tuple" (po P)=I (.type "tuple")/\aT "list" (po P)=I (.type "list")/\aT "str" (po P)=I (.type "str")
  /\aT "range" (po P)=I (.type "range")/\aT "ValueError" (po P)=I (.type "ValueError"):= #[#[],#[],#[],#[],#[],#[],#[]]
def aal(P:c'):aT "sys.recursionlimit" (ZS P)=au:= #[]
def Cj:List Str->Bool
 |[]=>L
 |x::r=> !m9 x r&&Cj r
theorem T7:∀{T:List Str},x∈T->m9 x T=L:=by
 intro q
 induction q with
 |nil=>show nofun
 |cons e q w=>
  intro z;rw[IA];rcases l:b_ x e with _|_
  .obtain rfl|z:=gm.mp z
   .rw[K'] at l;cases l
   .show w z
  rfl
theorem Wy:∀{T:List Str},Cj T=L->T.Nodup:=by
 intro q
 induction q with
 |nil=>intro _;show rz
 |cons u q w=>intro z;obtain⟨f,o⟩:=dj.mp z;show j0.mpr #[λl=>?_,w o];rw[T7 l] at f;cases f
theorem Pl:∀{b:List (Str×gz)}{U:Nat}{g:List (Str×ay)},((g.lookup x).isSome=L\/(x,o1)∈b)->((o5 U b g).lookup x).isSome=L:=by
 intro q
 induction q with
 |nil=>
  intro U g z;obtain z|z:=z
  .show z
  .cases z
 |cons r q w=>
  obtain⟨e,p⟩:=r;intro U g z;rw[show o5 U ((e,p)::q) g=(if p==.cell then o5 (U+1) q ((e,U)::g) else o5 U q g) from j];rcases l:p==o1 with _|_
  .show w ?_;obtain z|z:=z
   .show .inl z
   .obtain z|z:=gm.mp z
    .injections z;show cH l ()
    .show .inr z
  show w ?_;obtain z|z:=z
  .show .inl ?_;rw[vQ];cases x==e<;>first|show z|rfl
  .obtain z|z:=gm.mp z
   .injections z
    simp
   .show .inr z
def FM(C:gS)(x:Str):Bool:=match aT x C.names with
 |some .local=>L
 |some .cell=>L
 |_=>ak
def pO{c:Type}:List c->Bool
 |[]=>L
 |_::_=>ak
def FN(a:MA):Bool:=pO a.posonlyargs&&(a.vararg.isNone&&(pO a.kwonlyargs&&(a.kwarg.isNone&&pO a.defaults)))
def Zp(q:ll):Bool:=FN q.d.args&&(Cj (q.d.args.args.map (·.arg))&&(l9 (FM q.d.scope) (q.d.args.args.map (·.arg))&&(kV q.d.scope&&(!q.d.scope.isCoroutine&& !q.d.scope.isGenerator))))
def Dn(l:Str):Option ar->Bool
 |some (.str x _)=>b_ x l
 |_=>ak
def Gg(o:Obj)(l:Str):Bool:=match o.data with
 |.fields vs=>Dn l vs[1]?
 |_=>ak
theorem sO(z:pO l=L):l=[]:=by
 obtain _|⟨_,_⟩:=l
 .rfl
 show cY z
theorem Oc{E:MA}(z:FN E=L):∃G a,E= #[[],G,au,[],a,au,[]]:=by obtain⟨v,G,B,p,a,d,c⟩:=E;let z:=cd z;let o:=cd z.2;let M:=cd o.2;let b:=cd M.2;obtain rfl:=sO z.1;obtain rfl:=zd.mp o.1;obtain rfl:=sO M.1;obtain rfl:=zd.mp b.1;obtain rfl:=sO b.2;show#[G,a,j]
def Ob(z:FM sc x=L):aT x sc.names=I .local\/aT x sc.names=I .cell:=by
 let z:(match aT x sc.names with|some .local=>L|some .cell=>L|_=>ak)=L:=z;generalize aT x sc.names=d at z|-;obtain _|p:=d
 .show cY z
 cases p with
  | «local» =>show .inl j
  |cell=>show .inr j
  |_=>show cY z
theorem PH{l:Str}(z:Gg o l=L):∃O r,o.data=.fields O/\O[1]?=I (.str l r):=by
 let z:(match o.data with|.fields O=>Dn l O[1]? |_=>ak)=L:=z;generalize o.data=x at z|-;cases x with
 |fields O=>
  let z:Dn l O[1]?=L:=z;generalize b7:O[1]?=A at z;obtain _|A:=A
  .show cY z
  cases A with
   |str u r=>show#[O,r,j,gx.mp (show b_ u l=L from z)▸b7]
   |_=>show cY z
 |_=>show cY z
def RK(P:c'):eG.map (λv=>(h8 P v.2.addr).data)=eG.map (λv=>Data.func (sh v.2.d v.2.qual 3 .none .none .none v.2.pm ⇑v.2.code .none 0)):= #[]
def RM(P:c'):l9 (λv=>alive (h8 P v.2.addr)&&alive (h8 P v.2.code)&&Gg (h8 P v.2.code) v.2.qual&&Zp v.2) eG=L:= #[]
theorem VT{t s:aq->aC}:∀{a:List aq},a.map t=a.map s->∀u∈a,t u=s u:=by
 intro q
 induction q with
 |nil=>show nofun
 |cons e q w=>
  intro z u T;let z:=Ni z;obtain rfl|T:=gm.mp T
  .show z.1
  .show w z.2 u T
def Hj(p:∀y d,(kS P).get? y=I d->base.get? y=I d)(u:Str)(q:ll)(c:aT u eG=I q):zR base q:=by let i:=u2 c;let o:=cd (pB (RM P) _ i);let E:=cd o.1;let n:=cd E.1;let y:=cd o.2;let a:=cd y.2;let z:=cd a.2;let g:=cd z.2;let b:=cd g.2;obtain⟨O,r,x,Q⟩:=PH E.2;show#[#[_,p _ _ (sm n.1),VT (RK P) _ i],#[_,_,O,r,j,p _ _ (sm n.2),x,Q],Oc y.1,Wy a.1,xB g.1,(p8 _).mp b.1,(p8 _).mp b.2,λu T=>(Ob (pB z.1 u T)).imp (λl=>(mo ..).symm.trans l) λl=> #[(mo ..).symm.trans l,λU=>Pl (.inr (u2 l))]]
def IH:List ay:=[79,78,334,333,62,69,76,324,331]
def DB(P:c'):Frag:=IH.map λa=>(a,h8 P a)
theorem VA:∀{T:List ay},(T.map λa=>(a,h8 P a)).lookup a=I o->a∈T/\o=h8 P a:=by
 intro q
 induction q with
 |nil=>show nofun
 |cons y q w=>
  intro z;rw[th,vQ] at z;rcases l:a==y with _|_
  .rw[l] at z;obtain⟨bJ,bZ⟩:=w z;show#[mI _ bJ,bZ]
  rw[l] at z;have:=eq_of_beq l;subst this
  injections z
  show#[ti ..,j]
def Um(P:c'):l9 (λE=>alive (h8 P E)) IH=L:= #[]
theorem Un(p:∀y d,(kS P).get? y=I d->base.get? y=I d):(DB P).In base:=λE d z=>by obtain⟨f,rfl⟩:=VA z;show p _ _ (sm (pB (Um P) E f))
theorem Uo(P:c'):tM (DB P):=by
 show#[λg=>?_,λg=>?_,λg=>?_,λg=>?_,λg=>?_,λg E z=>?_]
 .cases g<;>rfl'
 .cases g<;>rfl'
 .cases g<;>rfl'
 .cases g<;>rfl'
 .cases g<;>rfl'
 .simp only[pn,gm,DY,aht] at z;obtain rfl|rfl|rfl|rfl|rfl|rfl|rfl:=z<;>cases g<;>rfl'
def acE(r:String):ar->Bool
 |.type V=> ↥(V=r)
 |_=>ak
def CN(r:String)(o:Obj):Bool:=acE r o.cls&&(o.dict.isNone&&pO o.slots.toList)
theorem Kd{r:String}(z:CN r o=L):o={cls:=.type r,dict:=au,data:=o.data,slots:=(gn [])}:=by
 obtain⟨g,x,c,n⟩:=o;let z:=cd z;let a:=cd z.2;obtain rfl:=zd.mp a.1;obtain⟨n⟩:=n;obtain rfl:=sO a.2;let z:=z.1;cases g with
 |type V=>obtain rfl:=bS (show↥(V=r)=L from z);rfl
 |_=>show cY z
def CY(f:V->ar->Bool):List V->List ar->Bool
 |[],fS=>pO fS
 |v::vs,fS=>match fS with
  |[]=>ak
  |a::fS=>f v a&&CY f vs fS
def BE(i:Int):ar->Bool
 |.int av _=> ↥(i=av)
 |_=>ak
def Lb(f:List ar->Bool):Data->Bool
 |.seq xs _=>f xs.toList
 |_=>ak
def KL(f:ay->Bool):ar->Bool
 | ⇑a=>f a
 |_=>ak
def CV(P:c'):Nat->V->ar->Bool
 |0,_,_=>ak
 |n+1,v,b=>match v with
  | ↑i=>BE i b
  |.J vs=>KL (λa=>alive (h8 P a)&&(CN "tuple" (h8 P a)&&Lb (CY (CV P n) vs) (h8 P a).data)) b
  |_=>ak
theorem Iv{a:ar}(z:BE i a=L):∃r,a=.int i r:=by
 cases a with
 |int Y r=>show#[r,by rw[bS (show↥(i=Y)=L from z)]]
 |_=>show cY z
theorem Zq{t:ay->Bool}{a:ar}(z:KL t a=L):∃E,a= ⇑E/\t E=L:=by
 cases a with
 |ref E=>show#[E,j,z]
 |_=>show cY z
theorem aaC{t:List ar->Bool}{x:Data}(z:Lb t x=L):∃e U,x=.seq e U/\t e.toList=L:=by
 cases x with
 |seq e U=>show#[e,U,j,z]
 |_=>show cY z
theorem ZE{t:V->ar->Bool}(b:∀B a,t B a=L->aP ai [] base B a)(z:CY t vs fS=L):bo ai [] base vs fS:=by
 induction vs generalizing fS with
 |nil=>show sO z
 |cons B vs w=>cases fS with
  |nil=>show cY z
  |cons a fS=>show#[a,fS,j,b B a (cd z).1,w (cd z).2]
theorem Zx(p:∀y d,(kS P).get? y=I d->base.get? y=I d)(U:Nat)(B:V)(a:ar)(z:CV P U B a=L):aP ai [] base B a:=by
 induction U generalizing B a with
 |zero=>show cY z
 |succ U w=>
  cases B with
  |int i=>show Iv z
  |J O=>obtain⟨E,rfl,z⟩:=Zq z;let o:=cd (cd z).2;obtain⟨e,m,Q,M⟩:=aaC o.2;show#[E,e,m,j,?_,ZE w M];have:=p _ _ (sm (cd z).1);rw[Kd o.1,Q] at this;show this
  |_=>show cY z
def BF(P:c'):List ea->List (Int×V)->Bool
 |l,[]=>pO l
 |l,(i,v)::es=>match l with
  |[]=>ak
  |e::l=>BE i e.key&&(↥(e.hash=Eo i)&&(CV P 9 v e.val&&BF P l es))
inductive E5(ai:ay)(w:eO)(base:bj)(l:List ea)(es:List (Int×V)):Prop
 |mk (kvs:List (Int×ar)) (p:vZ (kC aZ w) l kvs) (r:e7 ai [] base es kvs) (e:kvs.map (·.1)=es.map (·.1)) (h:∀e∈l,∃k,(kC aZ w).is k e.key=L/\e.hash=(kC aZ w).hash k):E5 ai w base l es
theorem TW(p:∀y d,(kS P).get? y=I d->base.get? y=I d){T:List ea}(z:BF P T es=L):E5 ai w base T es:=by
 induction es generalizing T with
 |nil=>obtain rfl:=sO (show pO T=L by cases T<;>show z);show#[[],.nil,j,j,λb z=>nomatch z]
 |cons v es a=>
  obtain⟨i,B⟩:=v;obtain _|⟨Q,T⟩:=T
  .show cY z
  let z:=cd z;let o:=cd z.2;let M:=cd o.2;obtain⟨n,s,H,e,f⟩:=a M.2;let O:(kC aZ w).is i Q.key=L:=(Iv z.1).elim λr l=>l▸cW (j:i=i);show#[(i,Q.val)::n,.cons O j s,#[Q.val,n,j,Zx p 9 B _ M.1,H],aN (zC i) e,bg.mpr #[#[i,O,bS o.1],f]]
def xC(x:Int):List Int->Bool
 |[]=>ak
 |y::r=> ↥(x=y)||xC x r
def Ck:List Int->Bool
 |[]=>L
 |x::r=> !xC x r&&Ck r
theorem T1{u:Int}:∀{T:List Int},u∈T->xC u T=L:=by
 intro q
 induction q with
 |nil=>show nofun
 |cons e q w=>
  intro z;split (↥(u=e)||xC u q)=L;obtain rfl|z:=gm.mp z
  .simp
  .rw[w z,afT]
theorem Wx:∀{T:List Int},Ck T=L->T.Nodup:=by
 intro q
 induction q with
 |nil=>intro _;show rz
 |cons u q w=>intro z;obtain⟨f,o⟩:=dj.mp z;show j0.mpr #[λl=>?_,w o];rw[T1 l] at f;cases f
def Gz(f:List ea->Nat->Bool):Data->Bool
 |.dict es n=>f es.toList n
 |_=>ak
theorem Qo{t:List ea->Nat->Bool}{x:Data}(z:Gz t x=L):∃e U,x=.dict e U/\t e.toList U=L:=by
 cases x with
 |dict e U=>show#[e,U,j,z]
 |_=>show cY z
def Hx(P:c')(a:ay)(es:List (Int×V)):Bool:=alive (h8 P a)&&(CN "dict" (h8 P a)&&(Ck (es.map (·.1))&&Gz (λeD n=>BF P eD es&&cA n es.length) (h8 P a).data))
def xi(P:c')(a:ay):O->Bool
 |.id es=>Hx P a es
 |_=>ak
def Bh(p:∀y d,(kS P).get? y=I d->base.get? y=I d)(z:xi P a (.id es)=L):fW w ai [] base (.id es) a:=by let z:=cd (show Hx P a es=L from z);let o:=cd z.2;let M:=cd o.2;obtain⟨i,U,Q,b⟩:=Qo M.2;let b:=cd b;obtain⟨n,s,H,e,f⟩:=TW (ai:=ai) (w:=w) p b.1;let c:n.length=es.length:=(fU _).symm.trans ((aN y7 e).trans (fU _));let t:=Kd o.1;show#[n,#[_,i,p _ _ (sm z.1),#[by rw[t],by rw[t],by rw[t]],?_,λQ V=>f Q (zq.mpr V),s,by rw[e];show Wx M.1],H];rw[c,<-rA b.2];show Q
def R4(P:c'):(xi P 168 Hy&&xi P 239 Hz&&xi P 48 HA)=L:= #[]
section
def vF(A:eO)(n:ay)(base:bj):bk:= #[A,n,base,λx=>aT x (qD A.params),λx=>aT x (po A.params)]
def ZZ(P:c'):l9 (λE=>alive (h8 P E)) [0,1,2,3]=L:= #[]
def Op(p:∀y d,(kS w.params).get? y=I d->base.get? y=I d):gT (vF w ai base):=by let x:=λE z=>p _ _ (sm (pB (ZZ w.params) E z));show#[#[_,Ct (x 2 ()) j (Di (ZT w.params)),aal w.params],Ct (x 3 ()) j (Di (R5 w.params)),Ct (x 0 ()) j (Di (Om w.params)),_,x 1 ()]
def Ta:zW (vF w ai base) oc:=λu B z=>by obtain⟨a,f,o⟩:=TF (pB (SF w.params) _ (u2 z));show#[a,f,λt z=>o ai t z]
theorem R3{C:List Int}(p:∀y d,(kS w.params).get? y=I d->base.get? y=I d)(h:(ai==rH)=ak)(c:∃e:Array ar,base.IsList ai e/\bo ai [] base (C.map V.int) e.toList):iL (vF w ai base) (aH C):=by
 intro U d z;let Q:=R4 w.params;let Q:=cd Q;let a:=cd Q.1
 match U,z with
 |0,z=>injections z;show#[168,j,by decide,Bh p a.1]
 |1,z=>injections z;show#[239,j,by decide,Bh p a.2]
 |2,z=>injections z;show#[48,j,by decide,Bh p Q.2]
 |3,z=>injections z;show#[ai,j,λl=>by subst l;simp at h,c]
theorem V9{m l:Str}{T:List (Nat×Str×Str)}(z:nj k m T=I l):(k,m,l)∈T:=by
 induction T with
 |nil=>show db z
 |cons v T w=>
  obtain⟨x,U,b7⟩:=v;let z:(match cA k x&&b_ m U with|true=>I b7|false=>nj k m T)=I l:=z;rcases Q:cA k x&&b_ m U with _|_
  .rw[Q] at z;show .tail _ (w z)
  rw[Q] at z;let Q:=cd Q;rw[rA Q.1,gx.mp Q.2,bR z];show .head _
theorem aeM{sc:List Int}(p:∀y d,(kS w.params).get? y=I d->base.get? y=I d)(h:(ai==rH)=ak)(c:∃e:Array ar,base.IsList ai e/\bo ai [] base (sc.map V.int) e.toList):bC (vF w ai base) (aH sc) oc (DB w.params) where
 gl:= #[Op p,Ta,R3 p h c]
 sB:=Un p
 nc:=Uo w.params
 Jx:=λU m l z=>by
  let z:=V9 z;unfold pM at z;obtain _|⟨_,_|⟨_,_|⟨_,z⟩⟩⟩:=z
  .show#[76,#[],#[],#[]]
  .show#[69,#[],#[],#[]]
  .show#[331,#[],#[],#[]]
  .cases z
 init:=λU=>by
  obtain _|U:=U
  .show#[62,#[],#[],#[],#[]]
  show#[324,#[],#[],#[],#[]]
 cls:=λu U z=>by
  let a:=Pe w.params;obtain⟨O,n⟩:=dj.mp a;let z:(match(generalizing:=false) b_ u "KindTable" with
   |true=>I 0
   |false=>match b_ u "Splitter" with
    |true=>I 1
    |false=>au)=I U:=z
  rcases Q:b_ u "KindTable" with _|_
  .rw[Q] at z;rcases Q:b_ u "Splitter" with _|_
   .rw[Q] at z;cases z
   rw[Q] at z;injections z;rw[gx.mp Q];show uI n
  rw[Q] at z;injections z;rw[gx.mp Q];show uI O
 fn:=λu q z t=>by have:=pB (G6 w.params) _ (u2 z);simp only[t] at this;show uI this
 keep:=λU=>by cases U<;>rfl'
 A6:=λu q z=>by obtain⟨d,bJ,bZ⟩:=(Hj p u q z).obj;show#[d,_,bJ,bZ]
 np:=λu T=>by have:=pB (Wl w.params) u T;show zd.mp this
 F3:=(qq w.params).1
 F1:=(qq w.params).2.1
 Az:=(qq w.params).2.2.1
 F4:=(qq w.params).2.2.2.1
 F8:=(qq w.params).2.2.2.2.1
 F7:=(qq w.params).2.2.2.2.2.1
 AA:=(qq w.params).2.2.2.2.2.2
end
theorem Zo{H:WRecords}{a:Str->Option ay}{C:List Int}{O:List ar}{G:List ay}(q:ReadsAllW H a h O (C.map Ef) G):bo ai [] h (C.map V.int) O:=by
 induction C generalizing O G with
 |nil=>show(agy q).1
 |cons i C w=>obtain⟨B,O,Y,b,rfl,_,D,c⟩:=agx q;obtain⟨r,rfl,_⟩:=readsW_int_inv D;show#[_,_,j,#[r,j],w c]
theorem X3{a:List WData}(z:kw.toRowW.claim.pre a=L):∃C:List Int,a=[.list (C.map Ef)]/\C.length<=63:=by
 obtain⟨f,o⟩:=pre_splitW z;obtain⟨x,q,rfl,M,b⟩:=hasAllW_cons f;obtain rfl:=hasAllW_nil b;obtain⟨e,rfl,O⟩:=hasW_list M;obtain⟨C,rfl⟩:=items_int O;show#[C,j,?_];let d:WTm.holds [] (.and (.not (.lt (.lit ↑63) (.len (.arg 0)))) (.lit (.bool L))) {args:=[.list (C.map Ef)]}=L:=o;let z:=condW_of d (by wtm_val);let z:(C.length:Int)<=63:=by simpa using z
 omega
def IT:ll:= #[731,T 180,"law",.str "law_tn0002_01" 1023,730]
def UZ:aT "law" eG=I IT:= #[]
theorem UX{h:bj}{r:Str->Option ar}(W:bC (vF w ai base) C oc K)(f:base.Ns nK r):r "law"=I ⇑731:=by
 obtain⟨G,b,c,p,a,_,N⟩:=f;obtain⟨z,t,B,n,U,_,D⟩:=(show base.Ns nK (λu=>aT u (qD w.params)) from W.gl.base.yb);obtain rfl:=bR (p.symm.trans n);let Q:b=t:=by injection a.symm.trans U
 subst Q;show(N "law").symm.trans ((D "law").trans (uI (pB (G6 w.params) ("law",IT) (u2 UZ))))
theorem ahx(plain:∀aa:List Int,aa.length<=63->∃y,jo (aH aa) oc eG 45 "law" [.C 3] []=.ok (.bool L) y):vV.Holds:=by
 show Tn λA aC V r az a m E al M i H v J N av as aw af O ap p G ag ax ah ay ae=>?_;obtain⟨aa,rfl,e⟩:=X3 ag;obtain⟨B,aD,Y,aq,rfl,rfl,D,c⟩:=agx ah;obtain rfl:=(agy c).1;obtain⟨n,am,aj,U,ao,rfl,ab,d,s,an,rfl⟩:=readsW_list_open D;let W:=aeM (w:=A) (base:=V.heap) (ai:=n) (sc:=aa) m (ae n (.head _)) #[aj,#[am,ab,d,U,s],Zo an];obtain⟨y,t⟩:=plain aa e;let b:=UX (h:=V.heap) W a.T.g;obtain rfl:731=E:=by injection bR (b.symm.trans af)
 show Ew ?_;let k:Inv A n V.heap [] [] [] V.heap:= #[#[j,λU al z=>(nomatch z),rz,(λ_ z=>nomatch z)],(λ_ _ z=>z),trivial,(λ_ z=>nomatch z),(λ_ z=>nomatch z)];let o:uk "law"=I 731:=by rfl'
 let l:=XG W (λu q z=>Hj m u q z) W.gl.C 45 810 350 () () callerA [] [] V [] "law" 731 [.C 3] [⇑n] o j (λ_=>j) () () () k #[_,_,j,#[n,j,j],j] (by rw[t];intro z;cases z);rw[t] at l;show Em l λq aA z=>?_;cases q with
 |error Q=>obtain⟨_,_,_,_,f,_⟩:=z;cases f
 |ok ac=>
  cases ac with
  |ret B=>
   obtain⟨ar,aB,aE,f,P,x⟩:=z;injection f with f
   subst f;obtain rfl:B=.bool L:=x;show#[.inl #[_,.bool L,[],j,λ_=>j,.bool L,?_,λ_=> #[rz,λ_ z=>nomatch z]],.of_keep P.aK.dy,P.os,.of_eq (P.gens.trans O)]
   first|rfl'|wrow_post
  |_=>show z.elim
end
section
variable{aq aC bb:Type}{f:V->ap->(ap->M aC)->M aC}{b:Bool}{n:Nat}{C:List O}{k:Nat}{vs:List V}
abbrev ho:Str:="before"
abbrev c9:Str:="append"
abbrev ic:Str:="kids_of"
abbrev iD:Str:="parts_at"
abbrev ey:Str:="has_await"
abbrev dL:Str:="split"
abbrev mF:Str:="hold_now"
abbrev oV:Str:="taken_ahead"
abbrev mG:Str:="held_part"
abbrev iE:Str:="mark_cut"
abbrev lb:Str:="paired"
abbrev e2:Str:="split_parts"
abbrev oS:Str:="with_kids"
abbrev ia:Str:="things"
abbrev ej:Str:="_law_turn"
abbrev ib:Str:="_law_spot"
abbrev cj:Str:="_law_eval"
abbrev gk:Str:="_law_run"
abbrev nz:Str:="_law_turned"
abbrev oT:Str:="_law_slot"
abbrev gQ:Str:="_law_made"
abbrev fB:Str:="_law_exec"
abbrev ek:Str:="_law_whole"
abbrev gR:Str:="_law_waits"
abbrev fe:Str:="_law_cuts"
abbrev ck:Str:="_law_same"
abbrev mE:Str:="_law_leaf"
abbrev dr:Str:="_law_int"
abbrev lS:Str:="_law_array"
abbrev jZ:Str:="_law_ref"
abbrev js:Str:="_law_object"
abbrev fu:Str:="_law_maybe"
abbrev lc:Str:="_law_new"
abbrev jt:Str:="_law_struct"
abbrev lT:Str:="_law_deleg"
abbrev oU:Str:="_law_text"
abbrev b9:Str:="law"
abbrev tg(v N o w:V):ap:=[("sp",⇑11),("e",v),("pre",N),("code",o),("effect",w)]
abbrev ro(v N o w a:V):ap:=[("sp",⇑11),("e",v),("pre",N),("kids",o),("last",w),("place",a)]
abbrev g8(n v N:V):ap:=[("w",n),("many",v),("lids",N)]
abbrev rp(n v N o:V):ap:=[("w",n),("e",v),("code",N),("effect",o)]
abbrev rq(n v N o w:V):ap:=[("g",n),(ho,v),("e",N),("w",o),("end",w)]
abbrev y5(n v N o w a b:V):ap:=[("s",n),("slots",v),("marked",N),("holds",o),("kids",w),("kid",a),("told",b)]
abbrev lR(v:V):ap:=[("g",⇑2),("d",v)]
abbrev ft(v N:V):ap:=[("g",⇑2),("d",v),("what",N)]
abbrev rr(v N o:V):ap:=[("g",⇑2),("d",v),("what",N),("q",o)]
theorem hv(m:M aq)(t:aq->M aC)(s:aC->M bb):(m.G t).G s=m.G λu=>(t u).G s:=by funext p;unfold M.G;cases m p<;>rfl
theorem im(m:M aq):m.G M.N=m:=by funext p;unfold M.G;cases m p<;>rfl
def fl{h:Type}(c:ap->M h)(k:V->M h):bl->M h
 |.next l=>c l
 |.ret B=>k B
def cf{h:Type}(f:V->ap->(ap->M h)->M h):List V->ap->(ap->M h)->M h
 |[],Y,c=>c Y
 |B::vs,Y,c=>f B Y λl=>cf f vs l c
def h5{h:Type}(f:V->ap->(ap->M h)->M h)(U:Nat):Nat->Nat->ap->(ap->M h)->M h
 |0,i,Y,c=>M.get λp=>match p[U]? with
  |some (.list vs)=>match b' vs.length i with
   |true=>c Y
   |false=>M.ab
  |_=>M.ab
 |k+1,i,Y,c=>M.get λp=>match p[U]? with
  |some (.list vs)=>match vs[i]? with
   |some B=>f B Y λl=>h5 f U k (i+1) l c
   |none=>c Y
  |_=>M.ab
def kY{h:Type}(f:V->ap->(ap->M h)->M h)(U:Nat)(H:List Int):List Int->ap->(ap->M h)->M h
 |[],Y,c=>M.get λp=>match p[U]? with
  |some (.id es)=>match↥(es.map (·.1)=H) with
   |true=>c Y
   |false=>M.ab
  |_=>M.ab
 |k::q,Y,c=>M.get λp=>match p[U]? with
  |some (.id es)=>match↥(es.map (·.1)=H) with
   |true=>f ↑k Y λl=>kY f U H q l c
   |false=>M.ab
  |_=>M.ab
def ni{h:Type}(f:V->(V->M h)->M h):List V->(List V->M h)->M h
 |[],k=>k []
 |B::vs,k=>f B λx=>ni f vs λxs=>k (x::xs)
def nh{h:Type}(f:V->(V->M h)->M h)(U:Nat):Nat->Nat->(List V->M h)->M h
 |0,i,k=>M.get λp=>match p[U]? with
  |some (.list vs)=>match b' vs.length i with
   |true=>k []
   |false=>M.ab
  |_=>M.ab
 |m+1,i,k=>M.get λp=>match p[U]? with
  |some (.list vs)=>match vs[i]? with
   |some B=>f B λx=>nh f U m (i+1) λxs=>k (x::xs)
   |none=>k []
  |_=>M.ab
def s6{h:Type}(f:V->(V->M h)->M h)(k:List V->M h):gs->M h
 |.vs l=>ni f l k
 |.kZ i m=>nh f i m 0 k
mutual
noncomputable def da{aC:Type}(c:b5):Nat->aW->ap->(V->M aC)->M aC
 |0,_,_,_=>M.ab
 |n+1,e,Y,k=>match e with
  |.Constant q _ _=>(wU q).G k
  |.Name x _=>(sn c Y x).G k
  |.BinOp l A r _=>da c n l Y λa=>da c n r Y λb=>(bQ c.C A a b).G k
  |.UnaryOp .Not x _=>da c n x Y λa=>(dp c.C a).G λb=>k (.bool !b)
  |.UnaryOp .USub x _=>da c n x Y λa=>match a with
   | ↑i=>k ↑(-i)
   |_=>M.ab
  |.BoolOp A es _=>w5 c n A es Y k
  |.IfExp t a b _=>p5 c n t Y λq=>match q with
   |true=>da c n a Y k
   |false=>da c n b Y k
  |.Compare l [A] [r] _=>match gK r with
   |true=>da c n l Y λa=>da c n r Y λb=>(bh c.C A a b).G λq=>k (.bool q)
   |false=>M.ab
  |.Tuple es _ _=>sa c n es Y λvs=>match aU vs.length with
   |true=>k (.J vs)
   |false=>M.ab
  |.List es _=>sa c n es Y λvs=>match aU vs.length with
   |true=>(M.new (.list vs)).G λi=>k ⇑i
   |false=>M.ab
  |.Dict aa es _=>match nt aa,b' aa.length 15&&cA aa.length es.length with
   |some aa,L=>w6 c n aa es Y λkvs=>match km kvs with
    |some es=>(M.new (.aX es)).G λi=>k ⇑i
    |none=>M.ab
   |_,_=>M.ab
  |.Subscript v (.Slice B d au p) H=>(ev c (n+1) (.Subscript v (.Slice B d au p) H) Y).G k
  |.Subscript v i _=>da c n v Y λo=>da c n i Y λav=>(aJ c.C o av).G k
  |.Attribute v a _=>match pT v with
   |true=>da c n v Y λo=>(mY c.C o a).G k
   |false=>M.ab
  |.Call (.Name x p) z [] H=>match eU c Y x&&fo z with
   |true=>match b_ x "isinstance",z with
    |true,[e,t]=>match uH "tuple" t&&eU c Y "tuple" with
     |true=>((ev c n e Y).G λ
      |.J _=>M.N (.bool L)
      |.none|.bool _|.int _|.str _=>M.N (.bool ak)
      |_=>M.ab).G k
     |false=>M.ab
    |true,_=>M.ab
    |false,z=>match qs c x with
     |some q=>sa c n z Y λvs=>(pu c x q vs).G k
     |none=>M.ab
   |false=>M.ab
  |.Call (.Attribute o m u) z [] pos=>match pT o&&fo z&&ye u pos z with
   |true=>da c n o Y λQ=>(e' c.C Q m).G λq=>sa c n z Y λvs=>(k1 c Q q vs).G k
   |false=>M.ab
  |.ListComp dP [#[.Name x _,iter,[],0]] sc _=>match f6 sc x&&jE c.sc Y sc.names&&kV sc&&gK iter&&mj sc.names sc.names,c.aM with
   |true,ak=>match i1 iter with
    |some e=>match eU c Y "range"&&fo [e] with
     |true=>da c n e Y λv=>(eW v).G λl=>ni (λv k=>da {c with sc:=sc} n dP (put x v (freeOf sc Y)) k) l λvs=>match aU vs.length with
      |true=>(M.new (.list vs)).G λi=>k ⇑i
      |false=>M.ab
     |false=>M.ab
    |none=>da c n iter Y λv=>(nu v).G λf=>s6 (λv k=>da {c with sc:=sc} n dP (put x v (freeOf sc Y)) k) (λvs=>match aU vs.length with
     |true=>(M.new (.list vs)).G λi=>k ⇑i
     |false=>M.ab) f
   |_,_=>M.ab
  |e=>(ev c (n+1) e Y).G k
noncomputable def p5{aC:Type}(c:b5):Nat->aW->ap->(Bool->M aC)->M aC
 |0,_,_,_=>M.ab
 |n+1,e,Y,k=>match e with
  |.UnaryOp .Not x _=>p5 c n x Y λb=>k (!b)
  |.BoolOp A es _=>wF c n A es Y k
  |.IfExp t a b _=>p5 c n t Y λq=>match q with
   |true=>p5 c n a Y k
   |false=>p5 c n b Y k
  |.Compare l [A] [r] _=>match gK r with
   |true=>da c n l Y λa=>da c n r Y λb=>(bh c.C A a b).G k
   |false=>M.ab
  |.Compare _ _ _ _=>M.ab
  |e=>da c n e Y λv=>(dp c.C v).G k
noncomputable def wF{aC:Type}(c:b5):Nat->tn->List aW->ap->(Bool->M aC)->M aC
 |0,_,_,_,_=>M.ab
 |n+1,A,es,Y,k=>match es with
  |[]=>k (match A with|.And=>L|.Or=>ak)
  |e::r=>p5 c n e Y λb=>match A,b with
   |.And,ak=>k ak
   |.Or,L=>k L
   |.And,L=>wF c n .And r Y k
   |.Or,ak=>wF c n .Or r Y k
noncomputable def w5{aC:Type}(c:b5):Nat->tn->List aW->ap->(V->M aC)->M aC
 |0,_,_,_,_=>M.ab
 |n+1,A,es,Y,k=>match es with
  |[]=>M.ab
  |[e]=>da c n e Y k
  |e::r=>da c n e Y λv=>(dp c.C v).G λb=>match A,b with
   |.And,ak=>k v
   |.Or,L=>k v
   |.And,L=>w5 c n .And r Y k
   |.Or,ak=>w5 c n .Or r Y k
noncomputable def sa{aC:Type}(c:b5):Nat->List aW->ap->(List V->M aC)->M aC
 |0,_,_,_=>M.ab
 |n+1,es,Y,k=>match es with
  |[]=>k []
  |e::r=>match vc e with
   |true=>da c n e Y λv=>sa c n r Y λvs=>k (v::vs)
   |false=>M.ab
noncomputable def w6{aC:Type}(c:b5):Nat->List aW->List aW->ap->(List (V×V)->M aC)->M aC
 |0,_,_,_,_=>M.ab
 |n+1,aa,es,Y,k=>match aa,es with
  |[],[]=>k []
  |q::aa,e::es=>da c n q Y λg=>da c n e Y λv=>w6 c n aa es Y λr=>k ((g,v)::r)
  |_,_=>M.ab
end
def ahz(t:aG->M aq)(s:aq->M aC):(M.get t).G s=M.get λp=>(t p).G s:=j
def qE{t:aG->M aq}{s:aG->M aC}{z:aq->M aC}(y:∀p,s p=(t p).G z):M.get s=(M.get t).G z:=funext λp=>congrFun (y p) p
section
variable{g:V->ap->M bl}{b8:ap->M aC}{eV:V->M aC}
theorem B7{r:ap->M aC}{w:ap->M bl}(z:∀B Y p,f B Y p=(g B Y).G (fl p eV))(a:∀T,r T=(w T).G (fl b8 eV))(B:V)(Y:ap):f B Y r=((g B Y).G λ|.next T=>w T|.ret B=>M.N (.ret B)).G (fl b8 eV):=by
 rw[z,hv]
 congr 1;funext q
 cases q with
 |next T=>show a T
 |ret B=>rfl
theorem Jg(z:∀B Y p,f B Y p=(g B Y).G (fl p eV))(O:List V)(Y:ap):cf f O Y b8=(jM g O Y).G (fl b8 eV):=by
 induction O generalizing Y with
 |nil=>rfl
 |cons B O w=>show B7 z w B Y
theorem VG(z:∀B Y p,f B Y p=(g B Y).G (fl p eV))(U p i:Nat)(Y:ap):h5 f U p i Y b8=(jL g U p i Y).G (fl b8 eV):=by
 induction p generalizing i Y with
 |zero=>
  show qE λa=>?_;obtain _|d:=a[U]?
  .rfl
  cases d with
   |list O=>split (match b' O.length i with|true=>b8 Y|false=>M.ab)=(match b' O.length i with|true=>M.N (.next Y)|false=>M.ab:M bl).G (fl b8 eV);cases b' O.length i<;>rfl
   |_=>rfl
 |succ p w=>
  show qE λa=>?_;obtain _|d:=a[U]?
  .rfl
  cases d with
   |list O=>
    split (match O[i]? with|some B=>f B Y λT=>h5 f U p (i+1) T b8|none=>b8 Y)=(match O[i]? with|some B=>(g B Y).G λq=>(match q with|.next T=>jL g U p (i+1) T|.ret B=>M.N (.ret B))|none=>M.N (.next Y):M bl).G (fl b8 eV);obtain _|B:=O[i]?
    .rfl
    show B7 z (w (i+1)) B Y
   |_=>rfl
theorem VC(z:∀B Y p,f B Y p=(g B Y).G (fl p eV))(U:Nat)(H q:List Int)(Y:ap):kY f U H q Y b8=(ji g U H q Y).G (fl b8 eV):=by
 induction q generalizing Y with
 |nil=>
  show qE λa=>?_;obtain _|d:=a[U]?
  .rfl
  cases d with
   |id b=>split (match↥(b.map (λv:Int×V=>v.1)=H) with|true=>b8 Y|false=>M.ab)=(match↥(b.map (λv:Int×V=>v.1)=H) with|true=>M.N (.next Y)|false=>M.ab:M bl).G (fl b8 eV);cases↥(b.map (λv:Int×V=>v.1)=H)<;>rfl
   |_=>rfl
 |cons p q w=>
  show qE λa=>?_;obtain _|d:=a[U]?
  .rfl
  cases d with
   |id b=>
    split (match↥(b.map (λv:Int×V=>v.1)=H) with|true=>f ↑p Y λT=>kY f U H q T b8|false=>M.ab)=(match↥(b.map (λv:Int×V=>v.1)=H) with|true=>(g ↑p Y).G λC=>(match C with|.next T=>ji g U H q T|.ret B=>M.N (.ret B))|false=>M.ab:M bl).G (fl b8 eV);obtain _|_:= ↥(b.map (λv:Int×V=>v.1)=H)
    .rfl
    show B7 z w _ Y
   |_=>rfl
end
section
variable{g:V->M V}{f:V->(V->M aC)->M aC}
theorem Jo{r:(List V->M aC)->M aC}{w:M (List V)}(z:∀B p,f B p=(g B).G p)(a:∀p,r p=w.G p)(B:V)(p:List V->M aC):(f B λu=>r λe=>p (u::e))=((g B).G λu=>w.G λe=>M.N (u::e)).G p:=by
 rw[z,hv]
 congr 1;funext u
 rw[a,hv];rfl
theorem VR(z:∀B p,f B p=(g B).G p)(O:List V)(p:List V->M aC):ni f O p=(lC g O).G p:=by
 induction O generalizing p with
 |nil=>rfl
 |cons B O w=>show Jo z w B p
theorem VP(z:∀B p,f B p=(g B).G p)(U m i:Nat)(p:List V->M aC):nh f U m i p=(jj g U m i).G p:=by
 induction m generalizing i p with
 |zero=>
  show qE λa=>?_;obtain _|d:=a[U]?
  .rfl
  cases d with
   |list O=>split (match b' O.length i with|true=>p []|false=>M.ab)=(match b' O.length i with|true=>M.N []|false=>M.ab:M (List V)).G p;cases b' O.length i<;>rfl
   |_=>rfl
 |succ m w=>
  show qE λa=>?_;obtain _|d:=a[U]?
  .rfl
  cases d with
   |list O=>
    split (match O[i]? with|some B=>f B λu=>nh f U m (i+1) λe=>p (u::e)|none=>p [])=(match O[i]? with|some B=>(g B).G λu=>(jj g U m (i+1)).G λe=>M.N (u::e)|none=>M.N []:M (List V)).G p;obtain _|B:=O[i]?
    .rfl
    show Jo z (w (i+1)) B p
   |_=>rfl
end
section
variable{k:aq->M aC}
def cx{u:M aC}{m:M bb}{a:bb->M aq}{F:bb->M aC}(Q:u=m.G F)(z:∀E,F E=(a E).G k):u=(m.G a).G k:=Q.trans ((aN m.G (funext z)).trans (hv m a k).symm)
def wR{u e:M aC}{m T:M aq}(z:u=m.G k)(o:e=T.G k):(match b with|true=>u|false=>e)=(match b with|true=>m|false=>T:M aq).G k:=by
 cases b
 .show o
 .show z
def io{u:M aC}{m:M aq}(z:u=m.G k):(match b with|true=>u|false=>M.ab)=(match b with|true=>m|false=>M.ab:M aq).G k:=wR z j
end
def rR(g:b5)(U:Nat):Prop:=∀(aC:Type) Q Y (k:V->M aC),da g U Q Y k=(ev g U Q Y).G k
def KT(g:b5)(U:Nat):Prop:=∀(aC:Type) Q Y (k:Bool->M aC),p5 g U Q Y k=(gP g U Q Y).G k
def kI(g:b5)(U:Nat):Prop:=∀(aC:Type) A es Y (k:Bool->M aC),wF g U A es Y k=(nZ g U A es Y).G k
def KB(g:b5)(U:Nat):Prop:=∀(aC:Type) A es Y (k:V->M aC),w5 g U A es Y k=(pz g U A es Y).G k
def E8(g:b5)(U:Nat):Prop:=∀(aC:Type) H es Y (k:List (V×V)->M aC),w6 g U H es Y k=(l8 g U H es Y).G k
def cP(g:b5)(U:Nat):Prop:=∀(aC:Type) es Y (k:List V->M aC),sa g U es Y k=(jD g U es Y).G k
structure pe(c:b5)(n:Nat):Prop where
 e:rR c n
 t:KT c n
 a:kI c n
 b:KB c n
 s:cP c n
 p:E8 c n
theorem Uy{g:b5}(w:∀g,pe g n)(y:aW)(u:Str)(l:Pos)(q:aW)(C:gS)(v:Pos)(Y:ap)(p:V->M aC):da g (n+1) (.ListComp y [#[.Name u l,q,[],0]] C v) Y p=(ev g (n+1) (.ListComp y [#[.Name u l,q,[],0]] C v) Y).G p:=by
 letI t:V->(V->M aC)->M aC:=λB p=>da {g with sc:=C} n y (put u B (freeOf C Y)) p
 letI s:V->M V:=λB=>ev {g with sc:=C} n y (put u B (freeOf C Y))
 letI mk:List V->M V:=λO=>match aU O.length with|true=>(M.new (.list O)).G λi=>M.N (V.ref i)|false=>M.ab
 letI b:List V->M aC:=λO=>match aU O.length with|true=>(M.new (.list O)).G λi=>p ⇑i|false=>M.ab
 let a:∀(B:V)(p:V->M aC),t B p=(s B).G p:=λB p=>(w _).e ..;let c:∀O,b O=(mk O).G p:=λO=>io (cx j λd=>j);let f:∀f,s6 t b f=((match f with|.vs T=>lC s T|.kZ i p=>jj s i p 0).G mk).G p:=λD=>by
  cases D with
  |vs T=>show cx (VR a T b) c
  |kZ i m=>show cx (VP a i m 0 b) c
 split (match f6 C u&&jE g.sc Y C.names&&kV C&&gK q&&mj C.names C.names,g.aM with
  |true,ak=>match i1 q with
   |some Q=>match eU g Y "range"&&fo [Q] with
    |true=>da g n Q Y λB=>(eW B).G λT=>ni t T b
    |false=>M.ab
   |none=>da g n q Y λB=>(nu B).G λf=>s6 t b f
  |_,_=>M.ab)=(match f6 C u&&jE g.sc Y C.names&&kV C&&gK q&&mj C.names C.names,g.aM with
  |true,ak=>(match i1 q with
   |some Q=>match eU g Y "range"&&fo [Q] with
    |true=>((ev g n Q Y).G λB=>eW B).G λT=>M.N (gs.vs T)
    |false=>M.ab
   |none=>(ev g n q Y).G nu).G λf=>(match f with
    |.vs T=>lC s T
    |.kZ i p=>jj s i p 0).G mk
  |_,_=>M.ab).G p
 obtain _|_:=f6 C u&&jE g.sc Y C.names&&kV C&&gK q&&mj C.names C.names
 .rfl
 obtain _|_:=g.aM
 .obtain _|Q:=i1 q
  .show cx (cx ((w g).e ..) λd=>j) f
  show cx (F:=s6 t b) ?_ f;show io (cx (cx ((w g).e ..) λd=>j) λd=>j)
 rfl
theorem Uz{g:b5}(w:∀g,pe g n):rR g (n+1):=by
 intro h Q Y ac;let U:rR g n:=(w g).e;let ae:cP g n:=(w g).s;let a:M.ab=(M.ab:M V).G ac:=j;cases Q with
 |ListComp y O ap v=>
  cases O with
  |nil=>show a
  |cons x q=>
  obtain⟨r,am,c,E⟩:=x;cases q with
  |cons _ _=>cases r<;>first|show a|(cases c<;>first|show a|(cases E with|ofNat m=>cases m<;>show a|negSucc m=>show a))
  |nil=>
  cases r with
  |Name u l=>
   cases c with
   |cons _ _=>show a
   |nil=>
   cases E with
   |negSucc m=>show a
   |ofNat m=>
   obtain _|m:=m
   .show Uy w ..
   show a
  |_=>show a
 |Call ag z ai v=>
  obtain _|⟨l,ao⟩:=ai
  .cases ag with
   |Name u l=>
    show io (k:=ac) ?_;obtain _|_:=b_ u "isinstance"
    .obtain _|_:=qs g u
     .show a
     show cx (ae ..) λ_=>j
    match z with
    |[Q,r]=>show io j
    |[]=>show a
    |[_]=>show a
    |_::_::_::_=>show a
   |Attribute d m al=>show io (cx (U ..) λ_=>cx j λ_=>cx (ae ..) λ_=>j)
   |_=>rfl
  cases ag<;>rfl
 |Subscript B i v=>
  let D:(da g n B Y λd=>da g n i Y λah=>(aJ g.C d ah).G ac)=((ev g n B Y).G λd=>(ev g n i Y).G λac=>aJ g.C d ac).G ac:=cx (U ..) λ_=>cx (U ..) λ_=>j;cases i with
  |Slice an J f l=>cases f with
   |none=>rfl
   |some _=>show D
  |_=>show D
 |Compare T o aj v=>
  match o,aj with
  |[A],[q]=>show io (cx (U ..) λ_=>cx (U ..) λ_=>cx j λ_=>j)
  |[],_=>rfl
  |[_],[]=>rfl
  |[_],_::_::_=>rfl
  |_::_::_,_=>rfl
 |UnaryOp A u v=>
  cases A with
  |Not=>show cx (U ..) λ_=>cx j λ_=>j
  |USub=>show cx (U ..) λE=>by cases E<;>rfl
  |_=>rfl
 |IfExp _ _ _ _=>show cx ((w g).t ..) λl=>wR (U ..) (U ..)
 |Dict H aa v=>
  split (match nt H,b' H.length 15&&cA H.length aa.length with
   |some H,L=>w6 g n H aa Y λaf=>match km af with
    |some aa=>(M.new (.aX aa)).G λi=>ac ⇑i
    |none=>M.ab
   |_,_=>M.ab)=(match nt H,b' H.length 15&&cA H.length aa.length with
   |some H,L=>(l8 g n H aa Y).G λaf=>match km af with
    |some aa=>(M.new (.aX aa)).G λi=>M.N (V.ref i)
    |none=>M.ab
   |_,_=>M.ab).G ac
  obtain _|H:=nt H
  .rfl
  cases b' _ 15&&cA _ aa.length<;>first|rfl|show cx ((w g).p ..) λl=>by cases km l<;>rfl
 |Attribute B E v=>show io (cx (U ..) λ_=>j)
 |BoolOp=>show(w g).b ..
 |BinOp T A q v=>show cx (U ..) λ_=>cx (U ..) λ_=>j
 |Tuple=>show cx (ae ..) λ_=>io j
 |List=>show cx (ae ..) λ_=>io (cx j λ_=>j)
 |_=>rfl
theorem UJ{g:b5}(w:∀g,pe g n):KT g (n+1):=by
 intro h Q Y p;let U:rR g n:=(w g).e;let T:KT g n:=(w g).t;let plain:(da g n Q Y λB=>(dp g.C B).G p)=((ev g n Q Y).G λB=>dp g.C B).G p:=cx (U ..) λd=>j;cases Q with
 |UnaryOp A u v=>cases A with
  |Not=>show cx (T ..) λd=>j
  |_=>show plain
 |BoolOp A b v=>show(w g).a _ _ _ _ _
 |IfExp r E y v=>show cx (T ..) λl=>wR (T ..) (T ..)
 |Compare c o N v=>
  match o,N with
  |[A],[q]=>show io (cx (U ..) λd=>cx (U ..) λd=>j)
  |[],_=>rfl
  |[_],[]=>rfl
  |[_],_::_::_=>rfl
  |_::_::_,_=>rfl
 |_=>show plain
theorem Up{g:b5}(w:∀g,pe g n):kI g (n+1):=by
 intro h A b Y p;obtain _|⟨Q,q⟩:=b
 .rfl
 show cx ((w g).t ..) λy=>by cases A<;>cases y<;>first|rfl|show(w g).a ..
theorem Uq{g:b5}(w:∀g,pe g n):KB g (n+1):=by
 intro h A a Y p
 match a with
 |[]=>rfl
 |[Q]=>show(w g).e ..
 |Q::c::q=>show cx ((w g).e ..) λB=>cx j λy=>by cases A<;>cases y<;>first|rfl|show(w g).b ..
theorem UI{g:b5}(w:∀g,pe g n):cP g (n+1):=by
 intro h b Y p;obtain _|⟨Q,q⟩:=b
 .rfl
 show io (cx ((w g).e ..) λa=>cx ((w g).s ..) λa=>j)
theorem UH{g:b5}(w:∀g,pe g n):E8 g (n+1):=by
 intro h H b Y a
 match H,b with
 |[],[]=>rfl
 |[],_::_=>rfl
 |_::_,[]=>rfl
 |l::H,Q::b=>show cx ((w g).e ..) λc=>cx ((w g).e ..) λc=>cx ((w g).p ..) λc=>j
theorem BN:∀U g,pe g U:=by
 intro U
 induction U with
 |zero=>intro _;show#[λa a a a=>j,λa a a a=>j,λa a a a a=>j,λa a a a a=>j,λa a a a=>j,λa a a a a=>j]
 |succ U w=>intro g;show#[Uz (w),UJ (w),Up (w),Uq (w),UI (w),UH (w)]
mutual
noncomputable def uf{aC:Type}(c:b5):Nat->List Str->dF->ap->(ap->M aC)->(V->M aC)->M aC
 |0,_,_,_,_,_=>M.ab
 |n+1,pr,s,Y,b8,eV=>match s with
  |.Expr e _=>match jP e with
   |true=>da c n e Y λf=>b8 Y
   |false=>M.ab
  |.Return (I e) _=>da c n e Y eV
  |.Return au _=>eV .none
  |.Assign [.Name x p] e _=>match iy pr x&&f6 c.sc x&&AH x p e with
   |true=>da c n e Y λv=>b8 (put x v Y)
   |false=>M.ab
  |.Assign [.Attribute o a _] e _=>match jP e with
   |true=>da c n e Y λv=>da c n o Y λQ=>(oF Q a v).G λf=>b8 Y
   |false=>M.ab
  |.Assign [.Subscript o i _] e _=>match jP e&&JK i with
   |true=>da c n e Y λv=>da c n o Y λQ=>da c n i Y λkk=>(dd c.C Q kk v).G λf=>b8 Y
   |false=>M.ab
  |.Assign [.Tuple q k p] e _=>match jP e&&Cn e&& !c.aM with
   |true=>da c n e Y λv=>(M.opt (hd pr c.sc (.Tuple q k p) v Y)).G b8
   |false=>M.ab
  |.AugAssign (.Name x _) .Add e _=>match jk x,aT x Y with
   |true,I ↑a=>da c n e Y λv=>match v with
    | ↑b=>match iy pr x&&f6 c.sc x with
     |true=>b8 (put x ↑(a+b) Y)
     |false=>M.ab
    |_=>M.ab
   |_,_=>M.ab
  |.If t a b _=>p5 c n t Y λ
   |true=>gZ c n pr a Y b8 eV
   |false=>gZ c n pr b Y b8 eV
  |.For t iter body [] _=>match c.aM,i1 iter with
   |true,_=>M.ab
   |false,I e=>match eU c Y "range"&&fo [e] with
    |true=>da c n e Y λv=>(eW v).G λm=>cf (λv Y b8=>(M.opt (hd pr c.sc t v Y)).G λu=>gZ c n pr body u b8 eV) m Y b8
    |false=>M.ab
   |false,au=>match gK iter with
    |false=>M.ab
    |true=>da c n iter Y λv=>match v with
     |.J vs=>cf (λv Y b8=>(M.opt (hd pr c.sc t v Y)).G λu=>gZ c n pr body u b8 eV) vs Y b8
     | ⇑i=>M.get λD=>match D[i]? with
      |some (.list vs)=>h5 (λv Y b8=>(M.opt (hd pr c.sc t v Y)).G λu=>gZ c n pr body u b8 eV) i vs.length 0 Y b8
      |some (.id es)=>kY (λv Y b8=>(M.opt (hd pr c.sc t v Y)).G λu=>gZ c n pr body u b8 eV) i (es.map (·.1)) (es.map (·.1)) Y b8
      |some (.aX [])=>b8 Y
      |_=>M.ab
     |_=>M.ab
  |.Raise (I e) au p=>(ex c (n+1) pr (.Raise (I e) au p) Y).G (fl b8 eV)
  |.Try body [.ExceptHandler (I (.Name x _)) au (h::cz) _] [] [] _=>match b_ x "ValueError"&&eU c Y x&& !c.aM with
   |true=>λD=>match gZ c n (pr++Y.map (·.1)) body Y (λl=>M.N (bl.next l)) (λv=>M.N (bl.ret v)) D with
    |.ok r y=>fl b8 eV r y
    |.exc y=>gZ {c with aM:=L,ag:=λf f=>M.ab} n pr (h::cz) Y b8 eV y
    |.ab=>.ab
   |false=>M.ab
  |s=>(ex c (n+1) pr s Y).G (fl b8 eV)
noncomputable def gZ{aC:Type}(c:b5):Nat->List Str->List dF->ap->(ap->M aC)->(V->M aC)->M aC
 |0,_,_,_,_,_=>M.ab
 |n+1,pr,d,Y,b8,eV=>match d with
  |[]=>b8 Y
  |s::r=>uf c n pr s Y (λl=>gZ c n pr r l b8 eV) eV
end
def E9(g:b5)(U:Nat):Prop:=∀(aC:Type) pr s Y (c:ap->M aC) k,uf g U pr s Y c k=(ex g U pr s Y).G (fl c k)
def KXs(g:b5)(U:Nat):Prop:=∀(aC:Type) pr d Y (c:ap->M aC) k,gZ g U pr d Y c k=(eF g U pr d Y).G (fl c k)
theorem Oz(m:M bl):m.G (fl (λT=>M.N (bl.next T)) λB=>M.N (bl.ret B))=m:=by
 have:(fl (λT=>M.N (bl.next T)) λB=>M.N (bl.ret B))=M.N:=by funext t;cases t<;>rfl
 rw[this,im]
theorem UM{g:b5}(w:KXs g n)(f:List Str)(r q:aW)(x:List dF)(l:Pos)(Y:ap)(c:ap->M aC)(k:V->M aC):uf g (n+1) f (.For r q x [] l) Y c k=(ex g (n+1) f (.For r q x [] l) Y).G (fl c k):=by
 letI t:V->ap->(ap->M aC)->M aC:=λB Y c=>(M.opt (hd f g.sc r B Y)).G λu=>gZ g n f x u c k
 letI s:V->ap->M bl:=λB Y=>(M.opt (hd f g.sc r B Y)).G λu=>eF g n f x u
 let a:∀B Y h,t B Y h=(s B Y).G (fl h k):=λB Y h=>cx j λo=>w ..;let U:rR g n:=(BN n g).e;split (match g.aM,i1 q with
  |true,_=>M.ab
  |false,I Q=>match eU g Y "range"&&fo [Q] with
   |true=>da g n Q Y λB=>(eW B).G λm=>cf t m Y c
   |false=>M.ab
  |false,au=>match gK q with
   |false=>M.ab
   |true=>da g n q Y λ
    |.J O=>cf t O Y c
    | ⇑i=>M.get λp=>match p[i]? with
     |some (.list O)=>h5 t i O.length 0 Y c
     |some (.id b)=>kY t i (b.map λ(v:Int×V)=>v.1) (b.map λ(v:Int×V)=>v.1) Y c
     |some (.aX [])=>c Y
     |_=>M.ab
    |_=>M.ab)=(match g.aM,i1 q with
  |true,_=>M.ab
  |false,I Q=>match eU g Y "range"&&fo [Q] with
   |true=>((ev g n Q Y).G λB=>eW B).G λm=>jM s m Y
   |false=>M.ab
  |false,au=>match gK q with
   |false=>M.ab
   |true=>(ev g n q Y).G λ
    |.J O=>jM s O Y
    | ⇑i=>M.get λp=>match p[i]? with
     |some (.list O)=>jL s i O.length 0 Y
     |some (.id b)=>ji s i (b.map λ(v:Int×V)=>v.1) (b.map λ(v:Int×V)=>v.1) Y
     |some (.aX [])=>M.N (bl.next Y)
     |_=>M.ab
    |_=>M.ab).G (fl c k)
 obtain _|_:=g.aM
 .obtain _|Q:=i1 q
  .cases gK q with
   |false=>rfl
   |true=>
   show cx (U ..) λB=>?_;cases B with
   |J O=>show Jg a O Y
   |ref i=>
    show qE λp=>?_;obtain _|d:=p[i]?
    .rfl
    cases d with
     |list O=>show VG a i _ 0 Y
     |id b=>show VC a i _ _ Y
     |aX b=>cases b<;>rfl
     |_=>rfl
   |_=>rfl
  show io (cx (cx (U ..) λo=>j) λT=>Jg a T Y)
 rfl
theorem UN{g:b5}(o:∀g,KXs g n):E9 g (n+1):=by
 let w:=o g;intro ae f D Y c k;let U:rR g n:=(BN n g).e;let a:M.ab=(M.ab:M bl).G (fl c k):=j;cases D with
 |Expr Q v=>show io (cx (U ..) λ_=>j)
 |Return Q v=>cases Q with
  |none=>rfl
  |some Q=>show cx (U ..) λ_=>j
 |If r E y v=>show cx ((BN n g).t ..) λl=>wR (w ..) (w ..)
 |Assign O Q v=>
  cases O with
  |nil=>show a
  |cons r q=>
  cases q with
  |cons y q=>cases r<;>show a
  |nil=>
  cases r with
  |Name u l=>show io (cx (U ..) λ_=>j)
  |Subscript d i l=>show io (cx (U ..) λ_=>cx (U ..) λ_=>cx (U ..) λ_=>cx j λ_=>j)
  |Attribute d E l=>show io (cx (U ..) λ_=>cx (U ..) λ_=>cx j λ_=>j)
  |Tuple ac l q=>show io (cx (U ..) λ_=>cx j λ_=>j)
  |_=>show a
 |AugAssign r A Q v=>
  cases r with
  |Name u l=>
   cases A with
   |Add=>
    split (match jk u,aT u Y with
     |true,I ↑E=>da g n Q Y λ
      | ↑y=>match iy f u&&f6 g.sc u with
       |true=>c (put u ↑(E+y) Y)
       |false=>M.ab
      |_=>M.ab
     |_,_=>M.ab)=(match jk u,aT u Y with
     |true,I ↑E=>(ev g n Q Y).G λ
      | ↑y=>match iy f u&&f6 g.sc u with
       |true=>M.N (bl.next (put u ↑(E+y) Y))
       |false=>M.ab
      |_=>M.ab
     |_,_=>M.ab).G _
    obtain _|_:=jk u
    .rfl
    obtain _|B:=aT u Y
    .rfl
    cases B with
     |int E=>
      show cx (U ..) λB=>?_;cases B with
      |int y=>show io j
      |_=>rfl
     |_=>rfl
   |_=>show a
  |_=>show a
 |For r aa x b v=>
  obtain _|⟨_,_⟩:=b
  .show UM w ..
  show a
 |Try x h b du v=>
  cases h with
  |nil=>rfl
  |cons J q=>
  obtain⟨m,mr,y,C⟩:=J;cases m with
  |none=>cases q<;>rfl
  |some s=>
  cases q with
  |cons _ _=>cases s<;>first|rfl|(cases mr<;>first|rfl|(cases y<;>rfl))
  |nil=>
  cases s with
  |Name u l=>
   cases mr with
   |some _=>rfl
   |none=>
   cases y with
   |nil=>rfl
   |cons z h=>
   cases b with
   |cons _ _=>rfl
   |nil=>
   cases du with
   |cons _ _=>rfl
   |nil=>
   split (match b_ u "ValueError"&&eU g Y u&& !g.aM with
    |true=>λp=>match gZ g n (f++Y.map λ(v:Str×V)=>v.1) x Y (λT=>M.N (bl.next T)) (λB=>M.N (bl.ret B)) p with
     |.ok q H=>fl c k q H
     |.exc H=>gZ {g with aM:=L,ag:=λ_ _=>M.ab} n f (z::h) Y c k H
     |.ab=>.ab
    |false=>M.ab)=(match b_ u "ValueError"&&eU g Y u&& !g.aM with
    |true=>λp=>match eF g n (f++Y.map λ(v:Str×V)=>v.1) x Y p with
     |.ok q H=>.ok q H
     |.exc H=>eF {g with aM:=L,ag:=λ_ _=>M.ab} n f (z::h) Y H
     |.ab=>.ab
    |false=>M.ab:M bl).G (fl c k)
   obtain _|_:=b_ u "ValueError"&&eU g Y u&& !g.aM
   .rfl
   dsimp only;funext p;rw[o g _ _ _ _ _ _,Oz];simp only[M.G];cases eF g n (f++Y.map λ(v:Str×V)=>v.1) x Y p with
   |ok q D=>rfl
   |exc D=>dsimp only;rw[o];rfl
   |ab=>rfl
  |_=>rfl
 |Raise E y v=>cases E<;>first|rfl|(cases y<;>rfl)
 |_=>rfl
theorem UO:∀U g,E9 g U/\KXs g U:=by
 intro U
 induction U with
 |zero=>intro _;show#[λa a a a a a=>j,λa a a a a a=>j]
 |succ U w=>
  intro g;obtain⟨s,H⟩:=w g;show#[UN λg=>(w g).2,?_];intro h f d Y c k;obtain _|⟨D,q⟩:=d
  .rfl
  split uf g U f D Y (λT=>gZ g U f q T c k) k=((ex g U f D Y).G λ|.next u=>eF g U f q u|.ret B=>M.N (bl.ret B)).G (fl c k);rw[s,hv]
  congr 1;funext t
  cases t with
  |next T=>show H ..
  |ret B=>rfl
def ZL(C:List O)(b:List (Str×V))(a:List (Str×ll))(k:Nat)(f:Str)(c:List V):M V:=match aT f a with
 |some q=>match kg q.d.args.args c with
  |some Y=>gZ #[C,b,jo C b a k,λx=>(aT x a).isSome,ak,q.d.scope] m1 [] q.d.body Y (λe=>M.N .none) M.N
  |none=>M.ab
 |none=>M.ab
theorem C2{b:List (Str×V)}{a:List (Str×ll)}{t:Str}{m:M V}(z:ZL C b a k t vs=m):jo C b a (k+1) t vs=m:=by
 show p_ ?_ z;split (match aT t a with
  |some q=>match kg q.d.args.args vs with
   |some Y=>(eF #[C,b,jo C b a k,λu=>(aT u a).isSome,ak,q.d.scope] m1 [] q.d.body Y).G λ
    |.ret B=>M.N B
    |.next _=>M.N .none
   |none=>M.ab
  |none=>M.ab)=match aT t a with
  |some q=>match kg q.d.args.args vs with
   |some Y=>gZ #[C,b,jo C b a k,λu=>(aT u a).isSome,ak,q.d.scope] m1 [] q.d.body Y (λc=>M.N .none) M.N
   |none=>M.ab
  |none=>M.ab
 obtain _|q:=aT t a
 .rfl
 split (match kg q.d.args.args vs with
  |some Y=>(eF #[C,b,jo C b a k,λu=>(aT u a).isSome,ak,q.d.scope] m1 [] q.d.body Y).G λ
   |.ret B=>M.N B
   |.next _=>M.N .none
  |none=>M.ab)=match kg q.d.args.args vs with
  |some Y=>gZ #[C,b,jo C b a k,λu=>(aT u a).isSome,ak,q.d.scope] m1 [] q.d.body Y (λc=>M.N .none) M.N
  |none=>M.ab
 obtain _|Y:=kg q.d.args.args vs
 .rfl
 show ME (((UO _ _).2 ..).trans (aN _ (funext λt=>by cases t<;>rfl)))
inductive bP where
 |const (k:Int) (v:V)
 |aj (k i:Int)
 |this (k:Int)
 |slot (k n:Int)
 |cb (k:Int)
 |call (k n:Int)
 |bin (A:Str)
 |len
 |dB
 |c8
 |bO (k:Int)
 |seq (k:Int)
 |ew (k s m:Int)
 |dJ (i:Int)
 |ref
 |new (k n:Int)
 |k4
 |iS
 |is (i:Int)
 |as
 |hg (n:Int)
 |bV
 |lift (k:Int) (A:Str)
 |ix
inductive ah where
 |mk (h:bP) (a:List ah)
def ah.aM:ah->bP
 |mk z _=>z
def ah.dK:ah->List ah
 |mk _ H=>H
def pN(o U:Int):V:=.J [↑o,↑U,.J []]
def iq:bP->List V->List V
 |.const k B=>λc=>[↑1,↑k,B]
 |.aj k i=>λc=>[↑2,↑k,↑i]
 |.this k=>λc=>[↑3,↑k]
 |.slot k n=>λc=>[↑91,↑k,↑n]
 |.cb k=>λ|[a]=>[↑30,↑k,a]|_=>[]
 |.call k n=>λas=>[↑8,↑k,.none,pN 16 n,.J as,↑0]
 |.bin A=>λ|[a,b]=>[↑14,↑7,.str A,a,b,↑0]|_=>[]
 |.len=>λ|[a]=>[↑7,↑7,a]|_=>[]
 |.dB=>λ|[a]=>[↑4,↑7,a,.J [↑16,↑1]]|_=>[]
 |.c8=>λ|[a,b]=>[↑6,↑7,a,b]|_=>[]
 |.bO k=>λ|[r,a,b]=>[↑17,↑k,r,a,b]|_=>[]
 |.seq k=>λ|B::es=>[↑31,↑k,.J es,B]|_=>[]
 |.ew k s m=>λ|[a]=>[↑19,↑k,a,↑s,↑m]|_=>[]
 |.dJ i=>λ|[a]=>[↑22,↑7,.J [↑2,↑7,↑i],a]|_=>[]
 |.ref=>λ|[a]=>[↑33,↑21,a]|_=>[]
 |.new k n=>λas=>[↑9,↑k,pN k n,.J as]
 |.k4=>λ|[a]=>[↑10,↑19,a]|_=>[]
 |.iS=>λas=>[↑11,↑19,.J as]
 |.is i=>λ|[a]=>[↑20,↑1,a,↑16,↑i]|_=>[]
 |.as=>λ|[a]=>[↑21,↑16,a]|_=>[]
 |.hg n=>λ|[]=>[↑25,↑17,.none,pN 16 n,↑0]|[a]=>[↑25,↑17,a,pN 16 n,↑0]|_=>[]
 |.bV=>λas=>[↑26,↑13,.J as]
 |.lift k A=>λ|[a,b]=>[↑27,↑k,.str A,a,b,↑0,↑7]|_=>[]
 |.ix=>λ|[a]=>[↑28,↑20,.str "-",a,↑0]|_=>[]
mutual
noncomputable def ax:ah->V
 |.mk h aa=>.J (iq h (bi aa))
noncomputable def bi:List ah->List V
 |[]=>[]
 |e::r=>ax e::bi r
end
def bP.kind:bP->Int
 |.const k _|.aj k _|.this k|.slot k _|.cb k|.call k _|.bO k|.seq k|.ew k _ _|.new k _|.lift k _=>k
 |.bin _|.len|.dB|.c8|.dJ _=>7
 |.ref=>21
 |.k4|.iS=>19
 |.is _=>1
 |.as=>16
 |.hg _=>17
 |.bV=>13
 |.ix=>20
abbrev ah.kind(Q:ah):Int:=Q.aM.kind
def bP.bF:bP->Nat->Bool
 |.const _ _,n|.aj _ _,n|.this _,n|.slot _ _,n=>cA n 0
 |.cb _,n|.len,n|.dB,n|.ew _ _ _,n|.dJ _,n|.ref,n|.k4,n|.is _,n|.as,n|.ix,n=>cA n 1
 |.bin _,n|.c8,n|.lift _ _,n=>cA n 2
 |.bO _,n=>cA n 3
 |.seq _,n=>i7 0 n
 |.hg _,n=>b' n 1
 |.call _ _,_|.new _ _,_|.iS,_=>L
 |.bV,n=>i7 1 n
inductive cr where
 |c (n:Int)
 |a (xs:List Int)
 |n (v:Int)
 |s (x e:Int)
 |f (x e:Int)
def cU(x e:Int):V:=.J [↑x,↑e]
def cr.cV:cr->List V
 |.c B=>[.str "c",↑B]
 |.a xs=>.str "a"::xs.map .int
 |.n B=>[.str "n",↑B]
 |.s x e=>[.str "s",cU x e]
 |.f x e=>[.str "f",↑x,↑e]
def cr.get:cr->Int->Option Int
 |.c B,i=>if i=1 then I B else au
 |.a xs,i=>if 1<=i then xs[(i-1).toNat]? else au
 |_,_=>au
def cr.set:cr->Int->Int->cr
 |.c _,_,B=>.c B
 |.a xs,i,B=>.a (xs.set (i-1).toNat B)
 |t,_,_=>t
inductive kK where
 |jz (t:V)
 |cl (fT:Str) (n:Int) (H:List V)
structure W where
 bp:List kK
 ci:List (Int×(Int×V))
 stop:Int
 fault:Int
 this:Int×Int
 b4:Int
 cp:Int
 fz:Int×Int
 dV:Int
 er:Int
 dW:Int×Int
 ed:Int
 ee:V
 a2:List cr
inductive jv(aq:Type) where
 |ok (a:aq) (w:W)
 |exc (w:W)
 |ab
def P(c:Type):Type:=W->jv c
namespace P
def N{c:Type}(a:c):P c:=λA=>.ok a A
def ab{c:Type}:P c:=λa=>.ab
def G{c h:Type}(m:P c)(f:c->P h):P h:=λA=>match m A with
 |.ok a Y=>f a Y
 |.exc Y=>.exc Y
 |.ab=>.ab
def opt{c:Type}:Option c->P c
 |some a=>N a
 |none=>ab
end P
def eY{c:Type}(code:Int):P c:=λA=>.exc {A with fault:=code}
def lF(q:kK):P Unit:=λA=>if 14<=A.bp.length then .exc {A with stop:=1} else .ok bL {A with bp:=A.bp++[q]}
def sY:Nat:=100000
def gg(r:cr):P Int:=λA=>match b' A.a2.length sY with
 |true=>.ok (A.a2.length+1) {A with a2:=A.a2++[r]}
 |false=>.ab
def dz(U:Int):P cr:=λA=>if 1<=U then(match A.a2[(U-1).toNat]? with|some r=>.ok r A|none=>.ab) else .ab
def oG(U:Int)(r:cr):P Unit:=λA=>.ok bL {A with a2:=A.a2.set (U-1).toNat r}
def bump(U:Int):P Unit:=(dz U).G λr=>match r.get 1 with
 |some x=>oG U (r.set 1 (x+1))
 |none=>P.ab
def g6(l:List V)(U:Int):V:=(l[U.toNat]?).getD .none
def nq(l:List Int)(U:Int):Int:=(l[U.toNat]?).getD 0
def rn(A:W):W:=
 letI a:Int:=A.bp.length
 {A with b4:=A.b4+1,cp:=a%3,fz:=(A.fz.1+2,a),dV:=nq [1,2,2,0] (a%4),er:=3+a%2,dW:=(if a%2=0 then(0,0) else(1,a)),ed:=nq [5,1,6,0] (a%4),ee:=g6 [.str "x",.str "y",.none] (a%3),this:=(A.this.1+4,a)}
def rm:P Unit:=P.G (λA=>.ok bL (rn A)) λa=>(bump 1).G λa=>(bump 2).G λa=>(bump 3).G λa=>bump 4
def ik(k U:Int):V:=
 if k=7 then g6 [↑0,↑1,↑0,↑2,↑(-1)] (U%5)
 else if k=1 then↑(U%2)
 else if k=13 then g6 [.str "p",.str "q",.none] (U%3)
 else if k=12 then g6 [↑5,↑1,↑0,↑6] (U%4)
 else if k=16 then g6 [↑1,↑2,↑0,↑1] (U%4)
 else if k=18 then cU U (U+1)
 else if k=19 then g6 [↑3,↑4,↑3,↑0] (U%4)
 else g6 [cU 0 0,cU 1 U] (U%2)
def jK:P Int:=λA=>.ok A.bp.length A
def oP(r:V):P Int:=(lF (.jz r)).G λa=>rm.G λa=>jK.G λn=>if n%7=6 then eY 4 else P.N n
def kW(i:Int):P V:=λA=>
 if i=1 then .ok ↑A.b4 A else if i=2 then .ok ↑A.cp A else if i=3 then .ok (cU A.fz.1 A.fz.2) A else if i=4 then .ok ↑A.dV A
 else if i=5 then .ok ↑A.er A else if i=6 then .ok (cU A.dW.1 A.dW.2) A else if i=7 then .ok ↑A.ed A else if i=8 then .ok A.ee A else .ab
def jp(i B:Int):P Unit:=λA=>if i=1 then .ok bL {A with b4:=B} else if i=2 then .ok bL {A with cp:=B} else if i=4 then .ok bL {A with dV:=B} else .ab
def c1:V->P Int
 | ↑i=>P.N i
 |_=>P.ab
def Xd:List V->P (Int×Int)
 |[]=>P.ab
 |a::q=>match q with
  |[]=>P.ab
  |B::q=>match q with
   |[]=>(c1 a).G λx=>(c1 B).G λe=>P.N (x,e)
   |_::_=>P.ab
def lH:V->P (Int×Int)
 |.J l=>Xd l
 |_=>P.ab
def gN(U a:Int):P Int:=if U=0 then eY 1 else if a<1 then eY 2 else(dz U).G λr=>if(r.cV.length:Int)<=a then eY 2 else P.opt (r.get a)
def mw(B:V):P V:=(lH B).G λv=>if v.1=0 then(kW v.2).G c1|>.G λx=>P.N ↑x else(dz v.1).G λr=>(P.opt (r.get v.2)).G λx=>P.N ↑x
def mX(B:V):P Unit:=(lH B).G λv=>if v.1=0 then((kW v.2).G c1).G λx=>jp v.2 (x+500) else(dz v.1).G λr=>(P.opt (r.get v.2)).G λx=>oG v.1 (r.set v.2 (x+500))
def k':List Bool->List V->P (List V)
 |[],vs=>match vs with
  |[]=>P.N []
  |_::_=>P.ab
 |f::a,vs=>match vs with
  |[]=>P.ab
  |B::vs=>match f with
   |true=>(mw B).G λx=>(k' a vs).G λq=>P.N (x::q)
   |false=>(k' a vs).G λq=>P.N (B::q)
def pi:List Bool->List V->P Unit
 |[],vs=>match vs with
  |[]=>P.N bL
  |_::_=>P.ab
 |f::a,vs=>match vs with
  |[]=>P.ab
  |B::vs=>match f with
   |true=>(mX B).G λb=>pi a vs
   |false=>pi a vs
def run(l:Str)(U:Int)(M:List Bool)(O:List V):P Int:=(k' M O).G λH=>(lF (.cl l U H)).G λa=>(pi M O).G λa=>if U%9=8 then eY 3 else jK.G λm=>P.N (m+U)
def lK(A:Str)(a b:Int):P Int:=
 if A="+" then P.N (a+b) else if A="-" then P.N (a-b) else if A="<" then P.N (if a<b then 1 else 0) else if A="==" then P.N (if a=b then 1 else 0)
 else if b=0 then eY 5 else if c7 a&&c7 b then P.N (a.fdiv b) else P.ab
def mi(A:Str)(a b:Int×Int):P V:=
 if A="==" then P.N ↑(if a=b then 1 else 0)
 else if a.1=0\/b.1=0 then P.N (if A="<" then↑0 else cU 0 0)
 else(lK A a.2 b.2).G λn=>P.N (if A="<" then↑n else cU 1 n)
def r6(k:Int)(B:V):P V:=
 if k=20 then(lH B).G λv=>if v.1=0 then P.N ↑0 else(gg (.n v.2)).G λn=>P.N ↑n
 else if k=18 then(lH B).G λv=>(gg (.s v.1 v.2)).G λn=>P.N ↑n
 else if k=7 then(c1 B).G λi=>(gg (.n i)).G λn=>P.N ↑n
 else P.ab
def te(k:Int)(U:Int):P V:=if U=0 then eY 1 else(dz U).G λ
 |.n B=>if k=18 then eY 7 else P.N ↑B
 |.s x e=>if k=18 then P.N (cU x e) else eY 7
 |_=>eY 7
def mg:cr->Bool
 |.c _=>L
 |_=>ak
def p6(a k s:Int)(B:V):P V:=
 if s=4 then r6 a B
 else if s=6 then(c1 B).G λi=>P.N (cU 1 i)
 else if s=7 then(lH B).G λv=>if v.1=0 then eY 8 else P.N ↑v.2
 else if s=5 then(c1 B).G λn=>te k n
 else if s=3 then(c1 B).G λn=>if n=0 then P.N ↑0 else(dz n).G λr=>if mg r then P.N ↑n else eY 7
 else if s=8 then P.N (cU 0 0)
 else(c1 B).G λn=>P.N ↑n
def bG(z:bP):Bool:=cA z.ctorIdx 14
def mf:List V->P (List Int)
 |[]=>P.N []
 |B::q=>(c1 B).G λi=>(mf q).G λl=>P.N (i::l)
def DE:P V:=λA=>.ok (cU A.this.1 A.this.2) A
def jf(k U:Int):P V:=λA=>match d4 U A.ci with
 |some (Y,B)=>if Y=k then .ok B A else .ab
 |none=>.ab
def iR(z:bP)(H:List ah):List V->P V:=match z with
 |.const _ B=>λ|[]=>P.N B|_=>P.ab
 |.aj _ i=>λ|[]=>kW i|_=>P.ab
 |.this k=>λ|[]=>if k=16 then P.N ↑1 else DE|_=>P.ab
 |.slot k n=>λ|[]=>jf k n|_=>P.ab
 |.cb k=>λ|[r]=>(oP r).G λn=>P.N (ik k n)|_=>P.ab
 |.call k n=>λvs=>(run "call" n (H.map λQ=>bG Q.aM) vs).G λm=>P.N (ik k m)
 |.bin A=>λ|[a,b]=>(c1 a).G λx=>(c1 b).G λe=>(lK A x e).G λo=>P.N ↑o|_=>P.ab
 |.len=>λ|[a]=>(c1 a).G λn=>if n=0 then eY 1 else(dz n).G λr=>P.N ↑((r.cV.length:Int)-1)|_=>P.ab
 |.dB=>λ|[a]=>(c1 a).G λn=>(gN n 1).G λx=>P.N ↑x|_=>P.ab
 |.c8=>λ|[a,b]=>(c1 a).G λn=>(c1 b).G λi=>(gN n (1+i)).G λx=>P.N ↑x|_=>P.ab
 |.ew k s _=>λ|[B]=>p6 ((H.head?.map ah.kind).getD 0) k s B|_=>P.ab
 |.dJ i=>λ|[B]=>(c1 B).G λx=>(jp i x).G λd=>P.N B|_=>P.ab
 |.new k n=>λvs=>(run "new" n (H.map λQ=>bG Q.aM) vs).G λm=>if k=16 then(gg (.c m)).G λY=>P.N ↑Y else P.N (cU m n)
 |.k4=>λ|[B]=>(c1 B).G λn=>if n<0\/9<n then eY 6 else(gg (.a (lV n.toNat 0))).G λY=>P.N ↑Y|_=>P.ab
 |.iS=>λvs=>(mf vs).G λl=>(gg (.a l)).G λY=>P.N ↑Y
 |.is i=>λ|[B]=>(c1 B).G λn=>if n=0 then P.N ↑0 else(dz n).G λr=>if mg r then(if i=0 then P.N ↑1 else(jp i n).G λd=>P.N ↑1) else P.N ↑0|_=>P.ab
 |.as=>λ|[B]=>(c1 B).G λn=>if n=0 then P.N ↑0 else(dz n).G λr=>P.N ↑(if mg r then n else 0)|_=>P.ab
 |.hg n=>λ|[]=>(gg (.f (-1) n)).G λY=>P.N ↑Y|[B]=>(c1 B).G λx=>if x=0 then eY 1 else(gg (.f x n)).G λY=>P.N ↑Y|_=>P.ab
 |.lift _ A=>λ|[a,b]=>(lH a).G λx=>(lH b).G λe=>mi A x e|_=>P.ab
 |.ix=>λ|[B]=>(lH B).G λv=>P.N (if v.1=0 then B else cU 1 (-v.2))|_=>P.ab
 |_=>λd=>P.ab
def fQ(k:Int)(B:V):P Str:=
 if k=12 then(c1 B).G λn=>(dz n).G λ
  |.n i=>if c7 i then P.N (j6 (toString i)) else P.ab
  |_=>P.ab
 else match B with
  |.none=>P.N ""
  |.str s=>if aU s.cps.size then P.N s else P.ab
  |_=>P.ab
def f5(a b:Str):P Str:=if aU (a.cps.size+b.cps.size) then P.N (a++b) else P.ab
mutual
noncomputable def eval:ah->P V
 |.mk h aa=>match h with
  |.bO _=>w7 aa
  |.bV=>(eE aa "").G λt=>P.N (.str t)
  |.ref=>hX aa
  |.seq k=>GY k aa
  |h=>(cR aa).G (iR h aa)
noncomputable def cR:List ah->P (List V)
 |[]=>P.N []
 |e::r=>(eval e).G λv=>(cR r).G λvs=>P.N (v::vs)
noncomputable def w7:List ah->P V
 |[t,a,b]=>(eval t).G λv=>(c1 v).G λi=>if i=1 then eval a else eval b
 |_=>P.ab
noncomputable def GY(k:Int):List ah->P V
 |v::es=>(cR es).G λc=>eval v
 |[]=>P.ab
noncomputable def eE:List ah->Str->P Str
 |[],t=>P.N t
 |e::r,t=>(eval e).G λv=>(fQ e.kind v).G λs=>(f5 t s).G λt=>eE r t
noncomputable def hX:List ah->P V
 |[.mk h aa]=>match h with
  |.aj _ i=>P.N (.J [↑0,↑i])
  |.dB=>(cR aa).G λvs=>match vs with
   |[↑n]=>(gN n 1).G λc=>P.N (.J [↑n,↑1])
   |_=>P.ab
  |.c8=>(cR aa).G λ
   |[↑n,↑i]=>(gN n (1+i)).G λc=>P.N (.J [↑n,↑(1+i)])
   |_=>P.ab
  |_=>P.ab
 |_=>P.ab
end
inductive bc where
 |expr (e:ah)
 |cD (n:Int) (e:ah)
 |cb (n k:Int) (t:ah)
 |bO (t:ah) (b a:List bc)
def gd(z:bP):Bool:=cA z.ctorIdx 4
mutual
noncomputable def ct:ah->Bool
 |.mk h aa=>gd h||dQ aa
noncomputable def dQ:List ah->Bool
 |[]=>ak
 |e::r=>ct e||dQ r
end
mutual
noncomputable def ec:ah->Nat
 |.mk _ aa=>qG aa+1
noncomputable def qG:List ah->Nat
 |[]=>3
 |e::r=>max (ec e) (qG r)
end
def jq(k U:Int):ah:=.mk (.slot k U) []
def Xe:List ah->Option ah
 |[]=>au
 |a::q=>I (q.foldl (λA v=>.mk .bV [A,v]) a)
def jS(d:List ah):List ah:=if 2<d.length then(match Xe d.dropLast,d.getLast? with|some A,I v=>[A,v]|_,_=>[]) else d
def jh:List ah->Nat
 |[]=>0
 |_::q=>if dQ q then jh q+1 else 0
abbrev eg:=List bc×ah×Int
def eI{c h:Type}(o:Option c)(f:c->Option h):Option h:=match o with
 |some a=>f a
 |none=>au
def qU(f:ah->Int->Option eg):List ah->Int->Option (List bc×Int)
 |[],g=>I ([],g)
 |Q::q,g=>eI (f Q g) λ(v,J,O)=>eI (qU f q O) λ(T,n)=>I (v++.expr J::T,n)
def nn(s f:ah->Int->Option eg):Nat->List ah->Int->Option (List bc×List ah×Int)
 |0,Q::q,g=>eI (f Q g) λ(v,J,O)=>I (v,J::q,O)
 |n+1,Q::q,g=>eI (s Q g) λ(v,J,O)=>eI (nn s f n q O) λ(T,C,a)=>I (v++T,J::C,a)
 |_,[],_=>au
mutual
noncomputable def cq:Nat->ah->Int->Option eg
 |0,_,_=>au
 |k+1,e,c=>if ec e<=k then(if ct e then(match e with
  |.mk h aa=>match h,aa with
   |.cb aQ,[t]=>pK k aQ t c
   |.seq aQ,v::es=>eI (qU (cq k) es c) λ(p,O)=>eI (cq k v O) λ(ms,E,n)=>I (p++ms,E,n)
   |.bO aQ,[t,a,b]=>pL k aQ t a b c
   |.dJ i,[v]=>if 2<=k then eI (cq k v c) λ(p,E,O)=>I (p,.mk (.dJ i) [E],O) else au
   |.bV,d=>gw k .bV (jS d) c
   |h,aa=>gw k h aa c) else I ([],e,c)) else au
noncomputable def pK:Nat->Int->ah->Int->Option eg
 |0,_,_,_=>au
 |k+1,aQ,t,c=>eI (cq k t c) λ(p,hk,O)=>I (p++[.cb (O+1) aQ hk],jq aQ (O+1),O+1)
noncomputable def pL:Nat->Int->ah->ah->ah->Int->Option eg
 |0,_,_,_,_,_=>au
 |k+1,aQ,t,a,b,c=>eI (cq k t c) λ(p,hk,O)=>
  if ct a||ct b then eI (cq k a (O+1)) λ(j,l,n)=>eI (cq k b n) λ(g,B,x)=>I (p++[.bO hk (j++[.cD (O+1) l]) (g++[.cD (O+1) B])],jq aQ (O+1),x)
  else I (p,.mk (.bO aQ) [hk,a,b],O)
noncomputable def gw:Nat->bP->List ah->Int->Option eg
 |0,_,_,_=>au
 |k+1,h,aa,c=>eI (nn (nm k) (cq k) (jh aa) aa c) λ(p,T,O)=>I (p,.mk h T,O)
noncomputable def nm:Nat->ah->Int->Option eg
 |0,_,_=>au
 |k+1,e,c=>match e with
  |.mk .ref [p]=>eI (ou k p c) λ(q,H,O)=>I (q,.mk .ref [H],O)
  |e=>k2 k e c
noncomputable def k2:Nat->ah->Int->Option eg
 |0,_,_=>au
 |k+1,e,c=>match e.aM with
  |.const _ _=>I ([],e,c)
  |.ref=>au
  |.this aQ=>if aQ=16 then I ([],e,c) else eI (cq k e (c+1)) λ(p,J,O)=>I (p++[.cD (c+1) J],jq e.kind (c+1),O)
  |_=>eI (cq k e (c+1)) λ(p,J,O)=>I (p++[.cD (c+1) J],jq e.kind (c+1),O)
noncomputable def ou:Nat->ah->Int->Option eg
 |0,_,_=>au
 |k+1,e,c=>match e with
  |.mk (.aj aQ i) []=>I ([],e,c)
  |.mk .dB [r]=>if r.kind=16 then eI (nk k r c) λ(p,C,O)=>I (p++[.expr (.mk .dB [C])],.mk .dB [C],O) else au
  |.mk .c8 [a,i]=>eI (nk k a c) λ(p,l,O)=>eI (nk k i O) λ(ms,f,n)=>I (p++ms++[.expr (.mk .c8 [l,f])],.mk .c8 [l,f],n)
  |_=>au
noncomputable def nk:Nat->ah->Int->Option eg
 |0,_,_=>au
 |k+1,e,c=>k2 k e c
end
def my(U k:Int)(B:V):P Unit:=λA=>.ok bL {A with ci:=d' U (k,B) A.ci}
mutual
noncomputable def exec:bc->P Unit
 |.expr e=>(eval e).G λc=>P.N bL
 |.cD n e=>(eval e).G λv=>my n e.kind v
 |.cb n k t=>(eval t).G λv=>(oP v).G λm=>my n k (ik k m)
 |.bO t b a=>(eval t).G λv=>(c1 v).G λi=>if i=1 then execs b else execs a
noncomputable def execs:List bc->P Unit
 |[]=>P.N bL
 |s::r=>(exec s).G λc=>execs r
end
variable{t:cr}{i x:Int}{h:bP}
def W.dZ(A:W)(z:List (Int×(Int×V))):W:={A with ci:=z}
def jv.u7{c:Type}(z:List (Int×(Int×V))):jv c->jv c
 |.ok a A=>.ok a (A.dZ z)
 |.exc A=>.exc (A.dZ z)
 |.ab=>.ab
inductive ij:cr->cr->Prop where
 |c (x e:Int):ij (.c x) (.c e)
 |a (xs G:List Int):xs.length=G.length->ij (.a xs) (.a G)
 |same (t:cr):ij t t
theorem ij.trans{E y g:cr}(u:ij E y)(e:ij y g):ij E g:=by
 cases u with
 |c u d=>cases e<;>first|show .c _ _|show .same _
 |a b G z=>cases e with
  |a _ ahB N=>show .a _ _ (z.trans N)
  |same=>show .a _ _ z
 |same=>show e
def f9(A Y:W):Prop:=∀(i:Nat)(t:cr),A.a2[i]?=I t->∃V,Y.a2[i]?=I V/\ij t V
theorem f9.refl(A:W):f9 A A:=λa r z=> #[r,z,.same r]
theorem f9.trans{E y g:W}(u:f9 E y)(e:f9 y g):f9 E g:=λi r z=>by obtain⟨V,f,o⟩:=u i r z;obtain⟨U,M,b⟩:=e i V f;show#[U,M,o.trans b]
def hr{c:Type}(m:P c):Prop:=∀A h,m (A.dZ h)=(m A).u7 h
def tG{c:Type}(A:W):jv c->Prop
 |.ok _ Y=>f9 A Y/\Y.ci=A.ci
 |.exc Y=>Y.ci=A.ci
 |.ab=>True
def lj{c:Type}(m:P c):Prop:=∀A,tG A (m A)
structure bT{aq:Type}(m:P aq):Prop where
 dX:hr m
 ev:lj m
section
theorem hr.G{m:P aq}{f:aq->P aC}(u:hr m)(e:∀E,hr (f E)):hr (m.G f):=λA z=>by
 unfold P.G;rw[u A z];cases m A with
 |ok E Y=>show e E Y z
 |exc Y=>rfl
 |ab=>rfl
theorem lj.G{m:P aq}{f:aq->P aC}(u:lj m)(e:∀E,lj (f E)):lj (m.G f):=λA=>by
 let T:=u A;unfold P.G;cases l:m A with
 |ok E Y=>
  rw[l] at T;let M:=e E Y;split tG A (f E Y);cases i:f E Y with
  |ok y J=>rw[i] at M;show#[T.1.trans M.1,M.2.trans T.2]
  |exc J=>rw[i] at M;show(show J.ci=Y.ci from M).trans T.2
  |ab=>trivial
 |exc Y=>rw[l] at T;show T
 |ab=>trivial
theorem bT.G{m:P aq}{f:aq->P aC}(u:bT m)(e:∀E,bT (f E)):bT (m.G f):= #[u.dX.G λE=>(e E).dX,u.ev.G λE=>(e E).ev]
theorem bT.N(E:aq):bT (P.N E):= #[λa a=>j,λA=> #[.refl A,j]]
theorem bT.ab:bT (P.ab:P aq):= #[λa a=>j,λa=>trivial]
theorem bT.throw(g:Int):bT (eY g:P aq):= #[λa a=>j,λa=>j]
theorem bT.opt:∀(d:Option aq),bT (P.opt d)
 |none=>.ab
 |some E=>.N E
theorem bT.of{m:P aq}(t:W->Option aq)(s:W->W)(f:∀A,m A=match t A with|some E=>.ok E (s A)|none=>.ab)(o:∀A z,t (A.dZ z)=t A)(M:∀A z,s (A.dZ z)=(s A).dZ z)(b:∀A,(s A).a2=A.a2)(O:∀A,(s A).ci=A.ci):bT m:=by
 show#[λA z=>?_,λA=>?_]
 .rw[f,f,o,M];cases t A<;>rfl
 .rw[f];obtain _|E:=t A
  .trivial
  show#[λi r l=> #[r,by rw[b];show l,.same r],O A]
end
def dv{v:Prop}[Decidable v]{E y:P aq}(u:bT E)(e:bT y):bT (if v then E else y):=by
 by_cases z:v
 .rw[aL z];show u
 .rw[aS z];show e
def lx{v:Prop}[Decidable v]{E y:P aq}(u:bT E)(e:bT y):bT (λA=>if v then E A else y A):=by
 by_cases z:v
 .rw[show(λA=>if v then E A else y A)=E from funext λA=>aL z];show u
 .rw[show(λA=>if v then E A else y A)=y from funext λA=>aS z];show e
theorem He(q:kK):bT (lF q):=by
 show#[λA z=>?_,λA=>?_]
 .by_cases l:14<=A.bp.length
  .show(aL l).trans (aN (jv.u7 z) (aL l:lF q A=_)).symm
  .show(aS l).trans (aN (jv.u7 z) (aS l:lF q A=_)).symm
 .unfold lF;by_cases l:14<=A.bp.length
  .rw[aL l];rfl
  .rw[aS l];show#[λi r l=> #[r,l,.same r],j]
theorem pD(r:cr):bT (gg r):= #[λA z=>by
 unfold gg;split (match b' A.a2.length sY with|true=>_|false=>_)=_;cases b' A.a2.length sY<;>rfl,λA=>by
 unfold gg;obtain _|_:=b' A.a2.length sY
 .trivial
 show#[λi a l=> #[a,by rw[eP (c5.mp l).1];show l,.same a],j]]
theorem oa(U:Int):bT (dz U):=lx (.of (λA=>A.a2[(U-1).toNat]?) id (λA=>by cases A.a2[(U-1).toNat]? <;>rfl) (λa a=>j) (λa a=>j) (λa=>j) λa=>j) .ab
def Hd:bT jK:=.of (λA=>I A.bp.length) id (λa=>j) (λa a=>j) (λa a=>j) (λa=>j) λa=>j
def Ba(i:Int):bT (kW i):=by let a:∀(t:W->V),(∀A z,t (A.dZ z)=t A)->bT (λA=>.ok (t A) A):=λt b=>.of (λA=>I (t A)) id (λc=>j) (λA z=>aN I (b A z)) (λc c=>j) (λc=>j) λc=>j;show lx (a _ λc c=>j) (lx (a _ λc c=>j) (lx (a _ λc c=>j) (lx (a _ λc c=>j) (lx (a _ λc c=>j) (lx (a _ λc c=>j) (lx (a _ λc c=>j) (lx (a _ λc c=>j) .ab)))))))
def xe(i B:Int):bT (jp i B):=by let a:∀(s:W->W),(∀A z,s (A.dZ z)=(s A).dZ z)->(∀A,(s A).a2=A.a2)->(∀A,(s A).ci=A.ci)->bT (λA=>.ok bL (s A)):=λs f o M=>.of (λA=>I bL) s (λb=>j) (λA z=>j) f o M;show lx (a _ (λb b=>j) (λb=>j) λb=>j) (lx (a _ (λb b=>j) (λb=>j) λb=>j) (lx (a _ (λb b=>j) (λb=>j) λb=>j) .ab))
theorem fY(B:V):bT (c1 B):=by
 cases B with
 |int i=>show .N _
 |_=>show .ab
theorem pC(B:V):bT (lH B):=by
 cases B with
 |J T=>
  obtain _|⟨E,_|⟨y,_|_⟩⟩:=T
  .show .ab
  .show .ab
  .show(fY E).G λa=>(fY y).G λa=>.N _
  .show .ab
 |_=>show .ab
theorem C'{B:Int}(z:t.get i=I x):ij t (t.set i B):=by
 cases t with
 |c b=>show .c _ _
 |a e=>show .a _ _ (by simp)
 |_=>cases z
theorem Ra{A:W}{a:cr}(b:A.a2[n]?=I t)(z:ij t a):f9 A {A with a2:=A.a2.set n a}:=λY B s=>by
 by_cases Q:n=Y
 .subst Q;rw[b] at s;injection s with s
  subst s;show#[a,iF (c5.mp b).1,z]
 .show#[B,(ru Q).trans s,.same B]
def Hh{U:Int}{f:Int->Int}:bT ((dz U).G λr=>(P.opt (r.get i)).G λu=>oG U (r.set i (f u))):=by
 show#[(oa U).dX.G λr=>(bT.opt _).dX.G λu=>λc c=>j,λA=>?_];unfold P.G dz;by_cases a:1<=U
 .rw[aL a];rcases b:A.a2[(U-1).toNat]? with _|E
  .trivial
  split tG A (((P.opt (E.get i)).G λu=>oG U (E.set i (f u))) A);rcases O:E.get i with _|u
  .trivial
  show#[Ra b (C' O),j]
 .rw[aS a];trivial
theorem xb(U:Int):bT (bump U):=by
 let Q:bump U=(dz U).G λr=>(P.opt (r.get 1)).G λu=>oG U (r.set 1 (u+1)):=by
  unfold bump
  congr 1;funext r
  cases r.get 1<;>rfl
 rw[Q];show Hh (f:=λu=>u+1)
def RB:bT rm:=by show .G (.of (λa=>I bL) rn (λa=>j) (λa a=>j) (λa a=>j) (λa=>j) λa=>j) λa=>?_;show(xb 1).G λa=>(xb 2).G λa=>(xb 3).G λa=>xb 4
def xf(r:V):bT (oP r):=(He _).G λa=>RB.G λa=>Hd.G λU=>dv (.throw _) (.N _)
def sj(U i:Int):bT (gN U i):=dv (.throw _) (dv (.throw _) ((oa U).G λr=>dv (.throw _) (.opt _)))
def Rz(B:V):bT (mw B):=(pC B).G λv=>dv (((Ba _).G λB=>fY B).G λu=>.N _) ((oa _).G λr=>(bT.opt _).G λu=>.N _)
def Ru(B:V):bT (mX B):=(pC B).G λv=>dv (((Ba _).G λB=>fY B).G λu=>xe _ _) (Hh (f:=λu=>u+500))
theorem RA(M:List Bool):∀(O:List V),bT (k' M O):=by
 induction M with
 |nil=>intro O;cases O with
  |nil=>show .N _
  |cons _ _=>show .ab
 |cons t a w=>intro O;cases O with
  |nil=>show .ab
  |cons B O=>cases t with
   |true=>show(Rz B).G λu=>(w O).G λq=>.N _
   |false=>show(w O).G λq=>.N _
theorem Rt(M:List Bool):∀(O:List V),bT (pi M O):=by
 induction M with
 |nil=>intro O;cases O with
  |nil=>show .N _
  |cons _ _=>show .ab
 |cons t a w=>intro O;cases O with
  |nil=>show .ab
  |cons B O=>cases t with
   |true=>show(Ru B).G λu=>w O
   |false=>show w O
def Hg(l:Str)(U:Int)(M:List Bool)(O:List V):bT (run l U M O):=(RA M O).G λa=>(He _).G λa=>(Rt M O).G λa=>dv (.throw _) (Hd.G λa=>.N _)
def Hf(A:Str)(E y:Int):bT (lK A E y):=dv (.N _) (dv (.N _) (dv (.N _) (dv (.N _) (dv (.throw _) (dv (.N _) .ab)))))
def Ry(A:Str)(E y:Int×Int):bT (mi A E y):=dv (.N _) (dv (.N _) ((Hf _ _ _).G λa=>.N _))
def Rv(p:Int)(B:V):bT (r6 p B):=dv ((pC B).G λv=>dv (.N _) ((pD _).G λa=>.N _)) (dv ((pC B).G λv=>(pD _).G λa=>.N _) (dv ((fY B).G λv=>(pD _).G λa=>.N _) .ab))
theorem RD(p U:Int):bT (te p U):=dv (.throw _) ((oa U).G λr=>by
 cases r with
 |n B=>show dv (.throw _) (.N _)
 |s u e=>show dv (.N _) (.throw _)
 |_=>show .throw _)
def RC(a p s:Int)(B:V):bT (p6 a p s B):=dv (Rv _ _) (dv ((fY B).G λb=>.N _) (dv ((pC B).G λv=>dv (.throw _) (.N _)) (dv ((fY B).G λb=>RD _ _) (dv ((fY B).G λU=>dv (.N _) ((oa U).G λr=>dv (.N _) (.throw _))) (dv (.N _) ((fY B).G λb=>.N _))))))
theorem Rx:∀(O:List V),bT (mf O):=by
 intro q
 induction q with
 |nil=>show .N _
 |cons B q w=>show(fY B).G λa=>(w).G λa=>.N _
def ow(z:bP):Bool:= !cA z.ctorIdx 3
def A8{m:P V}(O:List V)(z:bT m):bT (match O with|[]=>m|_=>P.ab):=by
 obtain _|_:=O
 .show z
 .show .ab
def n'{t:V->P V}(O:List V)(z:∀E,bT (t E)):bT (match O with|[E]=>t E|_=>P.ab):=by
 obtain _|⟨E,_|_⟩:=O
 .show .ab
 .show z E
 .show .ab
def A9{t:V->V->P V}(O:List V)(z:∀E b,bT (t E b)):bT (match O with|[E,b]=>t E b|_=>P.ab):=by
 obtain _|⟨E,_|⟨b,_|_⟩⟩:=O
 .show .ab
 .show .ab
 .show z E b
 .show .ab
theorem A'(v:ow h=L)(H:List ah)(O:List V):bT (iR h H O):=by
 cases h with
 |const _ B=>show A8 O (.N _)
 |aj=>show A8 O (Ba _)
 |this=>show A8 O (dv (.N _) (.of (λA=>I (cU A.this.1 A.this.2)) id (λa=>j) (λa a=>j) (λa a=>j) (λa=>j) λa=>j))
 |slot=>cases v
 |cb=>show n' O λa=>(xf _).G λa=>.N _
 |call=>show(Hg _ _ _ _).G λa=>.N _
 |bin=>show A9 O λa a=>(fY _).G λa=>(fY _).G λa=>(Hf _ _ _).G λa=>.N _
 |len=>show n' O λa=>(fY _).G λU=>dv (.throw _) ((oa U).G λr=>.N _)
 |dB=>show n' O λa=>(fY _).G λU=>(sj _ _).G λa=>.N _
 |c8=>show A9 O λa a=>(fY _).G λU=>(fY _).G λU=>(sj _ _).G λa=>.N _
 |ew=>show n' O λa=>RC _ _ _ _
 |dJ=>show n' O λa=>(fY _).G λU=>(xe _ _).G λa=>.N _
 |new=>show(Hg _ _ _ _).G λm=>dv ((pD _).G λa=>.N _) (.N _)
 |k4=>show n' O λa=>(fY _).G λU=>dv (.throw _) ((pD _).G λa=>.N _)
 |iS=>show(Rx _).G λU=>(pD _).G λa=>.N _
 |is=>show n' O λa=>(fY _).G λU=>dv (.N _) ((oa U).G λr=>dv (dv (.N _) ((xe _ _).G λa=>.N _)) (.N _))
 |as=>show n' O λa=>(fY _).G λU=>dv (.N _) ((oa U).G λr=>.N _)
 |hg=>
  obtain _|⟨E,_|_⟩:=O
  .show(pD _).G λa=>.N _
  .show(fY _).G λU=>dv (.throw _) ((pD _).G λa=>.N _)
  .show .ab
 |lift=>show A9 O λa a=>(pC _).G λa=>(pC _).G λa=>Ry _ _ _
 |ix=>show n' O λa=>(pC _).G λa=>.N _
 |_=>show .ab
theorem xd(p:Int)(B:V):bT (fQ p B):=dv ((fY _).G λU=>(oa U).G λr=>by
 cases r with
 |n i=>show dv (.N _) .ab
 |_=>show .ab) (by
 cases B with
 |none=>show .N _
 |str D=>show dv (.N _) .ab
 |_=>show .ab)
def xc(E y:Str):bT (f5 E y):=dv (.N _) .ab
def Q'(z:bP)(H:List ah)(O:List V):lj (iR z H O):=by
 rcases l:ow z with _|_
 .cases z with
  |slot p U=>
   obtain _|⟨B,O⟩:=O
   .intro A;split tG A (jf p U A);unfold jf;obtain _|v:=d4 U A.ci
    .trivial
    split tG A (if v.1=p then _ else _);by_cases Q:v.1=p
    .rw[aL Q];show#[.refl A,j]
    .rw[aS Q];trivial
   show λA=>trivial
  |_=>cases l
 show(A' l H O).ev
variable{e:ah}
mutual
noncomputable def qo(p:bP->Bool):ah->Bool
 |.mk h aa=>p h&&lu p aa
noncomputable def lu(p:bP->Bool):List ah->Bool
 |[]=>L
 |e::r=>qo p e&&lu p r
end
structure zL(Q:∀{aq:Type},P aq->Prop)(p:bP->Bool):Prop where
 N:∀{aq:Type}(a:aq),Q (P.N a)
 ab:∀{aq:Type},Q (P.ab:P aq)
 G:∀{aq aC:Type}{m:P aq}{f:aq->P aC},Q m->(∀a,Q (f a))->Q (m.G f)
 app:∀h aa vs,p h=L->Q (iR h aa vs)
 fQ:∀k v,Q (fQ k v)
 glue:∀a b,Q (f5 a b)
 yO:∀a b,Q (gN a b)
 c1:∀v,Q (c1 v)
def aw{E:Bool}(z:(E&&b)=L):E=L/\b=L:=dj.mp z
section
variable{Q:∀{aq:Type},P aq->Prop}{p:bP->Bool}(H:zL Q p)
include H
omit H in
def Yy{g:Prop}[Decidable g]{E y:P aq}(u:Q E)(e:Q y):Q (if g then E else y):=by
 split
 .show u
 .show e
def Yt{t:Int->P V}(O:List V)(z:∀n,Q (t n)):Q (match O with|[↑n]=>t n|_=>P.ab):=by
 obtain _|⟨B,_|_⟩:=O
 .show H.ab
 .cases B
  case int=>show z _
  all_goals show H.ab
 .cases B<;>show H.ab
def Yp{t:Int->Int->P V}(O:List V)(z:∀n i,Q (t n i)):Q (match O with|[↑n,↑i]=>t n i|_=>P.ab):=by
 obtain _|⟨B,_|⟨a,_|_⟩⟩:=O
 .show H.ab
 .cases B<;>show H.ab
 .cases B
  case int=>
   cases a
   case int=>show z _ _
   all_goals show H.ab
  all_goals show H.ab
 .cases B
  case int=>cases a<;>show H.ab
  all_goals show H.ab
mutual
theorem pA:∀(e:ah),qo p e=L->Q (eval e)
 |.mk h aa,a=>by
  let tW:=(aw a).2;let plain:Q ((cR aa).G (iR h aa)):=H.G (ud aa tW) λvs=>H.app h aa vs (aw a).1;clear a;cases h with
  |bO k=>show QY aa tW
  |bV=>show H.G (A2 aa tW _) λt=>H.N _
  |ref=>show Q0 aa tW
  |seq k=>show QZ k aa tW
  |_=>show plain
theorem ud:∀(es:List ah),lu p es=L->Q (cR es)
 |[],_=>H.N _
 |e::r,a=>H.G (pA e (aw a).1) λv=>H.G (ud r (aw a).2) λvs=>H.N _
theorem QY:∀(es:List ah),lu p es=L->Q (w7 es)
 |[t,x,b],a=>H.G (pA t (aw a).1) λv=>H.G (H.c1 v) λi=>Yy (pA x (aw (aw a).2).1) (pA b (aw (aw (aw a).2).2).1)
 |[],a=>H.ab
 |[_],a=>H.ab
 |[_,_],a=>H.ab
 |_::_::_::_::_,a=>H.ab
theorem QZ(k:Int):∀(es:List ah),lu p es=L->Q (GY k es)
 |[],a=>H.ab
 |v::es,a=>H.G (ud es (aw a).2) λc=>pA v (aw a).1
theorem A2:∀(es:List ah),lu p es=L->∀t,Q (eE es t)
 |[],_,t=>H.N _
 |e::r,a,t=>H.G (pA e (aw a).1) λv=>H.G (H.fQ _ _) λs=>H.G (H.glue _ _) λt=>A2 r (aw a).2 t
theorem Q0:∀(es:List ah),lu p es=L->Q (hX es)
 |[.mk h aa],a=>by
  let E:=ud aa (aw (aw a).1).2;clear a;cases h with
  |aj k i=>show H.N _
  |dB=>show H.G E λvs=>Yt H vs λc=>H.G (H.yO _ _) λc=>H.N _
  |c8=>show H.G E λvs=>Yp H vs λc c=>H.G (H.yO _ _) λc=>H.N _
  |_=>show H.ab
 |[],a=>H.ab
 |.mk _ _::_::_,a=>H.ab
end
end
def AF:zL @bT ow:= #[bT.N,bT.ab,bT.G,λz H O m=>A' m H O,xd,xc,sj,fY]
def Pw:zL @lj λa=>L:= #[λE=>(bT.N E).ev,bT.ab.ev,lj.G,λz H O a=>Q' z H O,λp B=>(xd p B).ev,λE y=>(xc E y).ev,λE y=>(sj E y).ev,λB=>(fY B).ev]
mutual
theorem FJ:∀(e:ah),qo (λa=>L) e=L
 |.mk h aa=>FK aa
theorem FK:∀(es:List ah),lu (λa=>L) es=L
 |[]=>rfl
 |e::r=>dj.mpr #[FJ e,FK r]
end
abbrev Db(Q:ah):Prop:=qo ow Q=L
abbrev Ln(es:List ah):Prop:=lu ow es=L
def Q5(z:Db e):bT (eval e):=pA AF e z
def Q8{b:List ah}(z:Ln b):bT (cR b):=ud AF b z
def w9(Q:ah):lj (eval Q):=pA Pw Q (FJ Q)
def mT{c:Type}(m:P c):Prop:=∀A,match m A with|.ok _ Y=>f9 A Y|_=>True
theorem lj.toS{m:P aq}(u:lj m):mT m:=λA=>by
 have:=u A;cases l:m A with
 |ok E Y=>rw[l] at this;show this.1
 |_=>trivial
theorem mT.G{m:P aq}{f:aq->P aC}(u:mT m)(e:∀E,mT (f E)):mT (m.G f):=λA=>by
 let T:=u A;unfold P.G;cases l:m A with
 |ok E Y=>
  rw[l] at T;let M:=e E Y;cases i:f E Y with
  |ok y J=>rw[i] at M;simp only[i];show f9.trans T M
  |_=>simp only[i]
 |_=>trivial
def G1(U p:Int)(B:V):mT (my U p B):=λA=>f9.refl A
mutual
theorem Rc:∀(s:bc),mT (exec s)
 |.expr e=>(w9 e).toS.G λc=>(bT.N _).ev.toS
 |.cD n e=>(w9 e).toS.G λc=>G1 _ _ _
 |.cb n k t=>(w9 t).toS.G λv=>(xf v).ev.toS.G λc=>G1 _ _ _
 |.bO t b a=>(w9 t).toS.G λv=>(fY v).ev.toS.G λi=>by
  split
  .show se b
  .show se a
theorem se:∀(d:List bc),mT (execs d)
 |[]=>(bT.N _).ev.toS
 |s::r=>(Rc s).G λc=>se r
end
theorem d6(m:P aq)(t:aq->P aC)(s:aC->P bb):(m.G t).G s=m.G λu=>(t u).G s:=by funext A;unfold P.G;cases m A<;>rfl
theorem sd:∀(E b:List bc),execs (E++b)=(execs E).G λa=>execs b:=by
 intro q
 induction q with
 |nil=>intro b;show j
 |cons D q w=>intro b;show(aN (exec D).G (funext λa=>w b)).trans (d6 _ _ _).symm
variable{c bW eS aF:Int}
abbrev nO:=List (Int×(Int×V))
def Agree(g:Int)(z N:nO):Prop:=∀n,n<=g->d4 n z=d4 n N
def kL(g p:Int)(z N:nO):Prop:=∀n,g<n->n<=p->d4 n N=d4 n z
def GH{v:Prop}[Decidable v]{E y:aq}(z:v):(match↥v with|true=>E|false=>y)=E:=by rw[cW z]
def GG{v:Prop}[Decidable v]{E y:aq}(z:¬v):(match↥v with|true=>E|false=>y)=y:=by rw[f8 z]
def xS{p:Int×aq}{r:List (Int×aq)}(z:x=p.1):d4 x (p::r)=I p.2:=GH z
def u1{p:Int×aq}{r:List (Int×aq)}(z:x≠p.1):d4 x (p::r)=d4 x r:=GG z
theorem Jd(u e:Int)(B:aq)(T:List (Int×aq)):d4 u (d' e B T)=if u=e then I B else d4 u T:=by
 induction T with
 |nil=>
  by_cases Q:u=e
  .show(xS Q).trans (aL Q).symm
  .show(u1 Q).trans (aS Q).symm
 |cons v q w=>
  by_cases Q:e=v.1
  .rw[show d' e B (v::q)=(v.1,B)::q from GH Q];by_cases d:u=e
   .show(xS (p:=(v.1,B)) (r:=q) (d.trans Q)).trans (aL d).symm
   .rw[aS d];show(u1 (p:=(v.1,B)) (r:=q) λl=>d (l.trans Q.symm)).trans (u1 (p:=v) (r:=q) λl=>d (l.trans Q.symm)).symm
  .rw[show d' e B (v::q)=v::d' e B q from GG Q];by_cases d:u=v.1
   .rw[aS λl=>Q (l.symm.trans d)];show(xS d).trans (xS d).symm
   .show(u1 d).trans (w.trans (by rw[u1 d]))
section
inductive EN(c aF:Int)(x:P Unit)(r:P aq)(w:W)(v:aq)(eN:W):Prop
 |mk (J:W) (e:x w=.ok bL J) (j:Agree c w.ci J.ci) (k:∀aI,kL c aF J.ci aI->r (J.dZ aI)=.ok v (eN.dZ aI)):EN c aF x r w v eN
inductive EM(c aF:Int)(x:P Unit)(r:P aq)(w eN:W):Prop
 |mk (J:W) (e:x w=.ok bL J) (j:Agree c w.ci J.ci) (k:∀aI,kL c aF J.ci aI->r (J.dZ aI)=.exc (eN.dZ aI)):EM c aF x r w eN
inductive E0(c aF:Int)(x:P Unit)(r:P aq)(w:W)(v:aq)(eN:W):Prop
 |mk (o:nO) (e:x w=.ok bL (eN.dZ o)) (j:Agree c w.ci o) (k:∀C,f9 eN C->kL c aF o C.ci->r C=.ok v C):E0 c aF x r w v eN
inductive Fm(c:Int)(x:P Unit)(w eN:W):Prop
 |mk (o:nO) (e:x w=.ok bL (eN.dZ o)) (j:Agree c w.ci o):Fm c x w eN
def eQ(g p:Int)(x:P Unit)(m r:P aq):Prop:=∀A,match m A with
 |.ab=>True
 |.exc H=>(∃h,x A=.exc (H.dZ h))\/EM g p x r A H
 |.ok B H=>EN g p x r A B H
def dM(g p:Int)(x:P Unit)(m r:P aq):Prop:=∀A,match m A with
 |.ab=>True
 |.exc H=>∃h,x A=.exc (H.dZ h)
 |.ok B H=>E0 g p x r A B H
def nU(g:Int)(x:P Unit)(m:P aq):Prop:=∀A,match m A with
 |.ab=>True
 |.exc H=>∃h,x A=.exc (H.dZ h)
 |.ok _ H=>Fm g x A H
def b1{m:P aq}{t:aq->P aC}{w eN:W}{a:aq}(z:m w=.ok a eN):(m.G t) w=t a eN:=by unfold P.G;rw[z]
def fP{m:P aq}{t:aq->P aC}{A H:W}(z:m A=.exc H):(m.G t) A=.exc H:=by unfold P.G;rw[z]
def fp{m:P aq}{t:aq->P aC}{A:W}(z:m A=.ab):(m.G t) A=.ab:=by unfold P.G;rw[z]
theorem Agree.refl(g:Int)(z:nO):Agree g z z:=λa a=>j
theorem Agree.trans{E y x:nO}(u:Agree c E y)(e:Agree bW y x)(z:c<=bW):Agree c E x:=λU l=>(u U l).trans (e U (fg l z))
theorem kL.refl(g p:Int)(z:nO):kL g p z z:=λa a a=>j
theorem kL.low{E y:nO}(u:kL c eS E y)(z:c<=bW):kL bW eS E y:=λU v l=>u U () l
theorem kL.high{E y x:nO}(u:kL c eS E y)(e:Agree bW x E)(z:bW<=eS):kL c bW x y:=λU v l=>(u U v ()).trans (e U l).symm
theorem eQ.refl{m:P aq}(g:Int)(u:hr m):eQ g g (P.N bL) m m:=λA=>by
 cases l:m A with
 |ab=>trivial
 |exc H=>show .inr #[A,j,.refl _ _,λa b=>by rw[u A a,l];rfl]
 |ok B H=>show#[A,j,.refl _ _,λa b=>by rw[u A a,l];rfl]
theorem dM.refl{m:P aq}(g:Int)(u:∀A:W,∃B,∀C,m C=.ok B C):dM g g (P.N bL) m m:=λA=>by obtain⟨B,x⟩:=u A;rw[x A];show#[A.ci,j,.refl _ _,λC a a=>x C]
theorem dM.w0{u:P Unit}{m r:P aq}(z:dM c aF u m r):eQ c aF u m r:=λA=>by
 have:=z A;cases l:m A with
 |ab=>trivial
 |exc H=>rw[l] at this;show .inl this
 |ok B H=>rw[l] at this;obtain⟨o,M,b,O⟩:=this;show#[_,M,b,λN h=>O (H.dZ N) (f9.refl H) h]
theorem eQ.G{u:P Unit}{m r:P aq}{f:aq->P aC}(z:eQ c aF u m r)(b:∀E,hr (f E)):eQ c aF u (m.G f) (r.G f):=λA=>by
 have:=z A;cases l:m A with
 |ab=>rw[fp l];trivial
 |exc H=>
  rw[l] at this;rw[fP l];obtain⟨o,Q⟩|⟨J,Q,j,p⟩:=this
  .show .inl #[o,Q]
  .show .inr #[J,Q,j,λN h=>fP (p N h)]
 |ok B H=>
  rw[l] at this;obtain⟨J,Q,j,p⟩:=this;rw[b1 l];let C:∀N,kL c aF J.ci N->(r.G f) (J.dZ N)=(f B H).u7 N:=λN h=>by rw[b1 (p N h),b B H N]
  cases i:f B H with
  |ab=>trivial
  |exc V=>show .inr #[J,Q,j,λN h=>by rw[C N h,i];rfl]
  |ok a V=>show#[J,Q,j,λN h=>by rw[C N h,i];rfl]
theorem dM.LK{e a1:P Unit}{t d:P aq}{x m:P aC}{p:aq->aC->P bb}(u:dM c bW e t d)(f:eQ bW eS a1 x m)(ev:mT a1)(r:hr x)(k:∀E y,hr (p E y))(b4:c<=bW)(cp:bW<=eS):
  eQ c eS (e.G λT=>a1) (t.G λE=>x.G λy=>p E y) (d.G λE=>m.G λy=>p E y):=λA=>by
 let n:=u A;cases l:t A with
 |ab=>rw[fp l];trivial
 |exc H=>rw[l] at n;obtain⟨z,Q⟩:=n;rw[fP l];show .inl #[z,fP Q]
 |ok B H=>
  rw[l] at n;obtain⟨o,Q,j,O⟩:=n;rw[b1 l];let v:=f (H.dZ o);rw[r H o] at v;cases bs:x H with
  |ab=>rw[fp bs];trivial
  |exc V=>
   rw[bs] at v;rw[fP bs];obtain⟨M,s⟩|⟨J,s,g,D⟩:=v
   .show .inl #[M,by rw[b1 Q];show s]
   .let b:=ev (H.dZ o);rw[s] at b;show .inr #[J,by rw[b1 Q];show s,j.trans g b4,λN h=>?_];rw[b1 (O (J.dZ N) b (h.high g cp))];show fP (D N (h.low b4))
  |ok a V=>
   rw[bs] at v;obtain⟨J,s,g,D⟩:=v;let b:=ev (H.dZ o);rw[s] at b;let C:∀N,kL c eS J.ci N->(d.G λE=>m.G λy=>p E y) (J.dZ N)=(p B a V).u7 N:=λN h=>by rw[b1 (O (J.dZ N) b (h.high g cp)),b1 (D N (h.low b4))];show k B a V N
   rw[b1 bs];cases i:p B a V with
   |ab=>trivial
   |exc w=>show .inr #[J,by rw[b1 Q];show s,j.trans g b4,λN h=>by rw[C N h,i];rfl]
   |ok q w=>show#[J,by rw[b1 Q];show s,j.trans g b4,λN h=>by rw[C N h,i];rfl]
end
variable{hk:cr}{y:Int}
section
theorem eQ.yV{e x:Int}{u:P Unit}{m r:P aq}{q:P aC}{n:aq->P aC}{s:aq->P Unit}(z:eQ e bW u m r)(Y:∀B,hr (n B))(O:∀B,dM c x (s B) (n B) q)(T:c<=e):dM c x (u.G λf=>r.G s) (m.G n) q:=λA=>by
 let E:=z A;cases l:m A with
 |ab=>rw[fp l];trivial
 |exc H=>
  rw[l] at E;rw[fP l];obtain⟨o,Q⟩|⟨J,Q,j,p⟩:=E
  .show#[o,fP Q]
  .show#[J.ci,by rw[b1 Q];show fP (p J.ci (.refl _ _ _))]
 |ok B H=>
  rw[l] at E;obtain⟨J,Q,j,p⟩:=E;rw[b1 l];let y:=O B (H.dZ J.ci);rw[Y B H J.ci] at y;let d:(u.G λf=>r.G s) A=s B (H.dZ J.ci):=by rw[b1 Q];show b1 (p J.ci (.refl _ _ _))
  cases i:n B H with
  |ab=>trivial
  |exc V=>rw[i] at y;obtain⟨M,b⟩:=y;show#[M,d.trans b]
  |ok a V=>rw[i] at y;obtain⟨M,b,g,D⟩:=y;show#[M,d.trans b,λU v=>(j U (fg v T)).trans (g U v),D]
def qi(f:aq->P aC):Prop:=∀B A,match f B A with|.ok a Y=>Y=A/\∀C,f9 A C->f B C=.ok a C|.exc _=>False|.ab=>True
theorem dM.look{u:P Unit}{m r:P aq}{t:aq->P aC}(z:dM c aF u m r)(b:qi t):dM c aF u (m.G t) (r.G t):=λA=>by
 let E:=z A;cases l:m A with
 |ab=>rw[fp l];trivial
 |exc H=>rw[l] at E;rw[fP l];show E
 |ok B H=>
  rw[l] at E;obtain⟨o,Q,j,p⟩:=E;rw[b1 l];let y:=b B H;cases i:t B H with
  |ab=>trivial
  |exc _=>rw[i] at y;show y.elim
  |ok a V=>rw[i] at y;obtain⟨rfl,U⟩:=y;show#[o,Q,j,λC ev h=>by rw[b1 (p C ev h)];show U C ev]
def zQ(f:aq->P aC):Prop:=∀B A a Y,f B A=.ok a Y->Y=A/\∀C,f9 A C->∃s,f B C=.ok s C
theorem dM.check{u:P Unit}{m r:P aq}{t:aq->P aC}{g:aq->bb}(z:dM c aF u m r)(b:zQ t)(Y:∀B,hr (t B)):
  dM c aF (u.G λn=>r.G λB=>(t B).G λn=>P.N bL) (m.G λB=>(t B).G λn=>P.N (g B)) (r.G λB=>(t B).G λn=>P.N (g B)):=λA=>by
 let E:=z A;cases l:m A with
 |ab=>rw[fp l];trivial
 |exc H=>rw[l] at E;obtain⟨o,Q⟩:=E;rw[fP l];show#[o,fP Q]
 |ok B H=>
  rw[l] at E;obtain⟨o,Q,j,p⟩:=E;rw[b1 l];let f:=p (H.dZ o) (f9.refl H) (.refl _ _ _);let d:(u.G λn=>r.G λB=>(t B).G λn=>P.N bL) A=((t B).G λn=>P.N bL) (H.dZ o):=by rw[b1 Q];show b1 f
  cases i:t B H with
  |ab=>rw[fp i];trivial
  |exc V=>rw[fP i];show#[o,d.trans (fP (by rw[Y B H o,i];rfl))]
  |ok e V=>
   obtain⟨rfl,U⟩:=b B H e V i;rw[b1 i];show#[o,d.trans ?_,j,λC ev h=>?_]
   .rw[b1 (eN:=V.dZ o) (a:=e) (by rw[Y B V o,i];rfl)];rfl
   .obtain⟨s,k⟩:=U C ev;rw[b1 (p C ev h),b1 k];rfl
theorem dM.two{e a1:P Unit}{t d:P aq}{x m:P aC}{k:aq->aC->bb}(u:dM c bW e t d)(f:dM bW eS a1 x m)(ev:mT a1)(r:hr x)(b4:c<=bW)(cp:bW<=eS):
  dM c eS (e.G λw=>a1) (t.G λE=>x.G λy=>P.N (k E y)) (d.G λE=>m.G λy=>P.N (k E y)):=λA=>by
 let n:=u A;cases l:t A with
 |ab=>rw[fp l];trivial
 |exc H=>rw[l] at n;obtain⟨h,Q⟩:=n;rw[fP l];show#[h,fP Q]
 |ok B H=>
  rw[l] at n;obtain⟨o,Q,j,p⟩:=n;rw[b1 l];let v:=f (H.dZ o);rw[r H o] at v;let b:=ev (H.dZ o);cases bs:x H with
  |ab=>rw[fp bs];trivial
  |exc V=>rw[bs] at v;obtain⟨M,s⟩:=v;rw[fP bs];show#[M,by rw[b1 Q];show s]
  |ok a V=>rw[bs] at v;obtain⟨M,s,g,D⟩:=v;rw[s] at b;rw[b1 bs];show#[M,by rw[b1 Q];show s,j.trans g b4,λC q i=>by rw[b1 (p C (f9.trans b q) (i.high g cp)),b1 (D C q (i.low b4))];rfl]
theorem eQ.Zh{u:P Unit}{m r:P aq}(z:eQ c bW u m r):nU c (u.G λa=>r.G λa=>P.N bL) m:=λA=>by
 let E:=z A;cases l:m A with
 |ab=>trivial
 |exc H=>
  rw[l] at E;obtain⟨o,Q⟩|⟨J,Q,j,p⟩:=E
  .show#[o,fP Q]
  .show#[J.ci,by rw[b1 Q];show fP (p J.ci (.refl _ _ _))]
 |ok B H=>rw[l] at E;obtain⟨J,Q,j,p⟩:=E;show#[J.ci,by rw[b1 Q,b1 (w:=J) (p J.ci (.refl _ _ _))];rfl,j]
theorem nU.w0{a1 b:P Unit}{x:P aq}{w d:P aC}(f:nU c a1 x)(o:eQ bW eS b w d)(q:hr w)(T:c<=bW):eQ c eS (a1.G λe=>b) (x.G λe=>w) d:=λA=>by
 let E:=f A;cases l:x A with
 |ab=>rw[fp l];trivial
 |exc H=>rw[l] at E;obtain⟨z,Q⟩:=E;rw[fP l];show .inl #[z,fP Q]
 |ok B H=>
  rw[l] at E;obtain⟨z,Q,j⟩:=E;rw[b1 l];let y:=o (H.dZ z);rw[q H z] at y;cases i:w H with
  |ab=>trivial
  |exc V=>
   rw[i] at y;obtain⟨M,s⟩|⟨J,s,g,D⟩:=y
   .show .inl #[M,by rw[b1 Q];show s]
   .show .inr #[J,by rw[b1 Q];show s,j.trans g T,λN h=>D N (h.low T)]
  |ok a V=>rw[i] at y;obtain⟨J,s,g,D⟩:=y;show#[J,by rw[b1 Q];show s,j.trans g T,λN h=>D N (h.low T)]
theorem nU.two{a1 b:P Unit}{x:P aq}{w:P aC}{k:aq->aC->bb}(f:nU c a1 x)(o:nU bW b w)(q:hr w)(T:c<=bW):nU c (a1.G λd=>b) (x.G λE=>w.G λy=>P.N (k E y)):=λA=>by
 let E:=f A;cases l:x A with
 |ab=>rw[fp l];trivial
 |exc H=>rw[l] at E;obtain⟨h,Q⟩:=E;rw[fP l];show#[h,fP Q]
 |ok B H=>
  rw[l] at E;obtain⟨h,Q,j⟩:=E;rw[b1 l];let y:=o (H.dZ h);rw[q H h] at y;cases i:w H with
  |ab=>rw[fp i];trivial
  |exc V=>rw[i] at y;obtain⟨M,s⟩:=y;rw[fP i];show#[M,by rw[b1 Q];show s]
  |ok a V=>rw[i] at y;obtain⟨M,s,g⟩:=y;rw[b1 i];show#[M,by rw[b1 Q];show s,j.trans g T]
end
theorem Bq{U p:Int}{m:P aq}{f:aq->V}(r:lj m)(a:c<U)(v:U<=aF):dM c aF (m.G λB=>my U p (f B)) (m.G λB=>P.N (f B)) (jf p U):=λA=>by
 cases l:m A with
 |ab=>rw[fp l];trivial
 |exc H=>rw[fP l];show#[H.ci,fP l]
 |ok B H=>
  rw[b1 l];show#[d' U (p,f B) H.ci,b1 l,?_,λC b h=>?_]
  .intro Y s;rw[Jd,aS ()];have:=r A;rw[l] at this;rw[this.2]
  .have:=h U a v;rw[Jd,aL j] at this;unfold jf;rw[this];simp
def oL{A:W}{v:Int}(a:1<=v)(z:A.a2[(v-1).toNat]?=I t):dz v A=.ok t A:=by unfold dz;rw[aL a,z]
def nx{A:W}{v:Int}(z:¬(1<=v)\/A.a2[(v-1).toNat]?=au):dz v A=.ab:=by
 unfold dz;by_cases t:1<=v
 .rw[aL t,z.resolve_left λl=>l t]
 .rw[aS t]
inductive Fv{aq:Type}(w a':W)(n:Int)(f:cr->P aq)(x:aq):Prop
 |mk (h:1<=n) (t:cr) (e:w.a2[(n-1).toNat]?=I t) (g:f t w=.ok x a'):Fv w a' n f x
def acb{a Y:W}{U:Int}{t:cr->P aq}{u:aq}(z:((dz U).G t) a=.ok u Y):Fv a Y U t u:=by
 by_cases M:1<=U
 .rcases A:a.a2[(U-1).toNat]? with _|r
  .rw[fp (nx (.inr A))] at z;cases z
  show#[M,r,A,(b1 (oL M A)).symm.trans z]
 .rw[fp (nx (.inl M))] at z;cases z
theorem ij.len(z:ij t hk):hk.cV.length=t.cV.length:=by
 cases z with
 |c=>rfl
 |a e G m=>show aN j4 ((fU _).trans (m.symm.trans (fU _).symm))
 |same=>rfl
theorem ij.get(z:ij t hk)(s:t.get i=I y):∃d,hk.get i=I d:=by
 cases z with
 |c E b=>
  let s:(if i=1 then I E else au)=I y:=s;by_cases Q:i=1
  .show#[b,aL Q]
  .rw[aS Q] at s;cases s
 |a e G m=>
  let s:(if 1<=i then e[(i-1).toNat]? else au)=I y:=s;by_cases Q:1<=i
  .rw[aL Q] at s;show#[_,(aL Q).trans (lU (m▸(c5.mp s).1))]
  .rw[aS Q] at s;cases s
 |same=>show#[_,s]
theorem Lv{U:Int}{A:W}{Y:W}(z:gN U i A=.ok x Y):Y=A/\∀C,f9 A C->∃T,gN U i C=.ok T C:=by
 by_cases f:U=0
 .rw[show gN U i=eY 1 from aL f] at z;cases z
 by_cases o:i<1
 .rw[show gN U i=eY 2 from(aS f).trans (aL o)] at z;cases z
 let Q:gN U i=(dz U).G λr=>if(r.cV.length:Int)<=i then eY 2 else P.opt (r.get i):=(aS f).trans (aS o);rw[Q] at z|-;obtain⟨M,r,h,s⟩:=acb z;by_cases b:(r.cV.length:Int)<=i
 .rw[aL b] at s;cases s
 rw[aS b] at s;rcases O:r.get i with _|e
 .rw[O] at s;cases s
 rw[O] at s;injection s with p a
 show#[a.symm,λC ev=>?_];obtain⟨V,c,g⟩:=ev _ _ h;obtain⟨d,j⟩:=g.get O;show#[d,(b1 (oL M c)).trans ?_];rw[g.len,aS b,j];rfl
def XI(p:Int):qi (fQ p):=λB b=>by
 by_cases f:p=12
 .rw[show fQ p B=(c1 B).G λU=>(dz U).G λ
   |.n i=>if c7 i then P.N (j6 (toString i)) else P.ab
   |_=>P.ab from aL f]
  cases B with
  |int U=>
   rw[show∀a:Int->P Str,(c1 ↑U).G a=a U from λc=>j];by_cases M:1<=U
   .rcases A:b.a2[(U-1).toNat]? with _|r
    .rw[fp (nx (.inr A))];trivial
    rw[b1 (oL M A)];cases r with
    |n i=>
     dsimp only;by_cases h:c7 i=L
     .rw[aL h];show#[j,λC ev=>?_];obtain⟨V,O,g⟩:=ev _ _ A;cases g;rw[b1 (oL M O)];show congrFun (aL h) C
     .rw[aS h];trivial
    |_=>trivial
   .rw[fp (nx (.inl M))];trivial
  |_=>trivial
 .rw[show fQ p B=(match B with
   |.none=>P.N ""
   |.str D=>if aU D.cps.size then P.N D else P.ab
   |_=>P.ab) from aS f]
  cases B with
  |none=>show#[j,λc c=>j]
  |str D=>
   dsimp only;by_cases l:aU D.cps.size=L
   .rw[aL l];show#[j,λc c=>j]
   .rw[aS l];trivial
  |_=>trivial
variable{aa dn:List ah}{g:ah->Int->Option eg}
def yJ(z:bP)(H:List ah):Bool:=z.bF H.length&&(match z,H with
 |.seq k,B::_=> ↥(B.kind=k)&& !bG B.aM
 |.bO k,[_,a,b]=> ↥(a.kind=k)&& ↥(b.kind=k)
 |_,_=>L)
mutual
noncomputable def s2:ah->Bool
 |.mk h aa=>yJ h aa&&p0 aa
noncomputable def p0:List ah->Bool
 |[]=>L
 |e::r=>s2 e&&p0 r
end
structure e1(e:ah):Prop where
 jU:Db e
 gi:s2 e=L
structure eC(es:List ah):Prop where
 jU:Ln es
 gi:p0 es=L
theorem e1.dK(u:e1 (.mk h aa)):eC aa:=by show#[(aw u.jU).2,(aw u.gi).2]
theorem eC.cons{r:List ah}(u:eC (e::r)):e1 e/\eC r:= #[#[(aw u.jU).1,(aw u.gi).1],(aw u.jU).2,(aw u.gi).2]
theorem eC.hS{q:List ah}(u:eC (e::q)):e1 e:=u.cons.1
theorem eC.at2{t:ah}{q:List ah}(u:eC (e::t::q)):e1 t:=u.cons.2.cons.1
theorem eC.FS{t s:ah}{q:List ah}(u:eC (e::t::s::q)):e1 s:=u.cons.2.cons.2.cons.1
theorem e1.dX(u:e1 e):hr (eval e):=(Q5 u.jU).dX
theorem eC.dX{b:List ah}(u:eC b):hr (cR b):=(Q8 u.jU).dX
def a7{c:Type}(d:c->Prop):Option c->Prop
 |none=>True
 |some a=>d a
theorem a7.G{Q:aq->Prop}{R:aC->Prop}{d:Option aq}{f:aq->Option aC}(u:a7 Q d)(s:∀E,Q E->a7 R (f E)):a7 R (eI d f):=by
 cases d
 .trivial
 .show s _ u
theorem a7.of{d:aq->Prop}{a:Option aq}{E:aq}(u:a7 d a)(z:a=I E):d E:=by rw[z] at u;show u
theorem a7.imp{a H:aq->Prop}{d:Option aq}(z:a7 a d)(t:∀E,a E->H E):a7 H d:=by
 cases d
 .trivial
 .show t _ z
theorem aec(m:P Unit):(m.G λa=>P.N bL)=m:=by funext A;unfold P.G;cases m A<;>rfl
theorem q4(m:P aq):m.G P.N=m:=by funext A;unfold P.G;cases m A<;>rfl
def Re(D:bc):execs [D]=exec D:=by show aec _
def sf(v:List bc)(D:bc):execs (v++[D])=(execs v).G λa=>exec D:=by rw[sd,Re]
def execs_nil:execs []=P.N bL:=j
theorem r'(Q:ah):cR [Q]=(eval Q).G λB=>P.N [B]:=by rfl
def iZ:bP->Bool
 |.bO _|.bV|.ref|.seq _=>ak
 |_=>L
set_option tactic.hygienic true in
@[elab_as_elim] theorem JR{P:bP->Prop}{z:bP}(t:iZ z=ak)(g:∀p,P (.bO p))(D:∀p,P (.seq p))(q:P .ref)(r:P .bV):P z:=by
 cases z
 case bO p=>show g p
 case seq p=>show D p
 case ref=>show q
 case bV=>show r
 all_goals cases t
theorem lw(H:List ah)(v:iZ h=L):eval (.mk h H)=(cR H).G (iR h H):=by
 cases h
 case bO=>cases v
 case bV=>cases v
 case ref=>cases v
 case seq=>cases v
 all_goals rfl
abbrev l'(H:List ah):List Bool:=H.map λe=>bG e.aM
abbrev qM(H:List ah):List Int:=H.map ah.kind
theorem app_congr(f:l' dn=l' aa)(o:qM dn=qM aa):iR h dn=iR h aa:=by
 let M:(dn.head?.map ah.kind)=(aa.head?.map ah.kind):=by have:=aN List.head? o;simpa[List.head?_map] using this
 funext O;cases h with
 |call p U=>split (run "call" U (l' dn) O).G _=(run "call" U (l' aa) O).G _;rw[f]
 |new p U=>split (run "new" U (l' dn) O).G _=(run "new" U (l' aa) O).G _;rw[f]
 |ew p s m=>
  obtain _|⟨B,_|_⟩:=O
  .rfl
  .show aN (λd:Option Int=>p6 (d.getD 0) p s B) M
  .rfl
 |_=>rfl
structure pg(e:ah)(c:Int)(r:eg):Prop where
 le:c<=r.2.2
 gu:eQ c r.2.2 (execs r.1) (eval e) (eval r.2.1)
 aQ:r.2.1.kind=e.kind
 f0:bG r.2.1.aM=bG e.aM
structure wl(e:ah)(c:Int)(r:eg):Prop where
 le:c<=r.2.2
 qI:dM c r.2.2 (execs r.1) (eval e) (eval r.2.1)
 aQ:r.2.1.kind=e.kind
 f0:bG r.2.1.aM=bG e.aM
structure KdS(aa:List ah)(c:Int)(r:List bc×List ah×Int):Prop where
 le:c<=r.2.2
 gu:eQ c r.2.2 (execs r.1) (cR aa) (cR r.2.1)
 ac:l' r.2.1=l' aa
 dH:qM r.2.1=qM aa
abbrev tU(f:ah->Int->Option eg):Prop:=∀e c,e1 e->a7 (pg e c) (f e c)
abbrev pc(f:ah->Int->Option eg):Prop:=∀e c,e1 e->a7 (wl e c) (f e c)
theorem IP{t s:ah->Int->Option eg}(n:tU t)(a:pc s):∀(U:Nat)(H:List ah)(g:Int),eC H->a7 (KdS H g) (nn s t U H g)
 |0,[],g,u=>trivial
 |U+1,[],g,u=>trivial
 |0,Q::q,g,u=>(n Q g u.hS).G λe x=> #[x.le,x.gu.G λB=>u.cons.2.dX.G λb=>(bT.N _).dX,aN (· ::l' q) x.f0,aN (· ::qM q) x.aQ]
 |U+1,Q::q,g,u=>(a Q g u.hS).G λe x=>(IP n a U q e.2.2 u.cons.2).G λo dO=>by
  show#[fg x.le dO.le,?_,?_,?_]
  .split eQ _ _ (execs (e.1++o.1)) _ _;rw[sd];show x.qI.LK dO.gu (se _) u.cons.2.dX (λb b=>(bT.N _).dX) x.le dO.le
  .split bG _::l' o.2.1=bG _::l' q;rw[x.f0,dO.ac]
  .split ah.kind _::qM o.2.1=ah.kind _::qM q;rw[x.aQ,dO.dH]
theorem qi.G{f:aq->P aC}{s:aC->P bb}(u:qi f)(e:qi s):qi (λB=>(f B).G s):=λB A=>by
 let E:=u B A;split match((f B).G s) A with|.ok a Y=>Y=A/\∀C,f9 A C->((f B).G s) C=.ok a C|.exc _=>False|.ab=>True
 cases l:f B A with
 |ab=>rw[fp l];trivial
 |exc _=>rw[l] at E;show E.elim
 |ok D Y=>
  rw[l] at E;obtain⟨rfl,E⟩:=E;rw[b1 l];let y:=e D Y;cases i:s D Y with
  |ab=>trivial
  |exc _=>rw[i] at y;show y.elim
  |ok a J=>rw[i] at y;obtain⟨rfl,y⟩:=y;show#[j,λC ev=>by rw[b1 (E C ev)];show y C ev]
def S6(r:Str):qi (f5 r):=λB A=>by
 by_cases z:aU (r.cps.size+B.cps.size)=L
 .let Q:f5 r B=P.N (r++B):=aL z;rw[Q];show#[j,λa a=>j]
 .let Q:f5 r B=P.ab:=aS z;rw[Q];trivial
def GZ(E y:ah):eE [E,y] ""=((eval E).G λB=>(fQ E.kind B).G λD=>f5 "" D).G λr=>(eval y).G λB=>(fQ y.kind B).G λD=>f5 r D:=by split ((eval E).G λB=>(fQ E.kind B).G λD=>(f5 "" D).G λr=>(eval y).G λB=>(fQ y.kind B).G λD=>(f5 r D).G P.N)=_;simp only[d6,q4]
structure Ah(a b:ah)(c:Int)(r:List bc×List ah×Int):Prop where
 le:c<=r.2.2
 gu:eQ c r.2.2 (execs r.1) (eE [a,b] "") (eE r.2.1 "")
def text2{t:ah->Int->Option eg}(b:tU t)(a:pc g){E y:ah}(u:eC [E,y]):a7 (Ah E y c) (nn g t n [E,y] c):=by
 obtain _|n:=n
 .show(b E c u.hS).G λe x=> #[x.le,?_];split eQ _ _ _ _ ((eval e.2.1).G λB=>(fQ e.2.1.kind B).G λD=>(f5 "" D).G λr=>eE [y] r);rw[x.aQ];show x.gu.G λB=>(xd _ _).dX.G λD=>(xc _ _).dX.G λr=>(A2 AF [y] (dj.mpr #[u.at2.jU,j]) r).dX
 .show(a E c u.hS).G λe x=>?_;obtain _|n:=n
  .show a7.G (a7.G (Q:=pg y e.2.2) (R:=λo:List bc×List ah×Int=>pg y e.2.2 (o.1,o.2.1.headD y,o.2.2)/\o.2.1=[o.2.1.headD y]) (b y e.2.2 u.at2) λo dO=> #[dO,j]) λo dO=> #[fg x.le dO.1.le,?_];split eQ _ _ (execs (e.1++o.1)) _ (eE (e.2.1::o.2.1) "");rw[dO.2,GZ,GZ,sd,x.aQ,dO.1.aQ];show dM.LK (x.qI.look ((XI E.kind).G (S6 ""))) dO.1.gu (se _) u.at2.dX (λr B=>(xd _ _).dX.G λD=>(xc _ _).dX) x.le dO.1.le
  .show a7.G (a7.G (Q:=λd=>True) (R:=λd=>False) ?_ λo d=>?_) λd z=>z.elim
   .obtain _|_:=g y e.2.2<;>trivial
   .obtain _|_:=n<;>trivial
variable{dE:List ah}
theorem e1.top(u:e1 (.mk h aa)):h.bF aa.length=L:=(aw (aw u.gi).1).1
theorem e1.seq{p:Int}{B:ah}{b:List ah}(u:e1 (.mk (.seq p) (B::b))):B.kind=p/\bG B.aM=ak:=by have:=(aw (aw u.gi).1).2;show#[bS (aw this).1,by have:=(aw this).2;rwa [p8] at this]
theorem xX{F:List aq->Bool}{t:aq->Bool}(U:∀e q,F (e::q)=(t e&&F q)){H:List aq}(s:F H=L):∀Q∈H,t Q=L:=by
 induction H with
 |nil=>show λa z=>nomatch z
 |cons e q w=>have z:=aw ((U e q).symm.trans s);show bg.mpr #[z.1,w z.2]
theorem a9{E:Bool}(z:E=L)(s:b=L):(E&&b)=L:=by rw[z,s];rfl
def pp(Q:ah):P Str:=(eval Q).G λB=>(fQ Q.kind B).G (f5 "")
def w8(E:ah)(q:List ah):eE (E::q) ""=(pp E).G (eE q):=by split ((eval E).G λB=>(fQ E.kind B).G λD=>(f5 "" D).G (eE q))=_;unfold pp;simp only[d6]
def A4(y:ah)(q:List ah)(r:Str):eE (y::q) r=(eval y).G λB=>(fQ y.kind B).G λD=>(f5 r D).G (eE q):=j
def A3(y:ah)(q:List ah)(r:Str):eE (y::q) r=(eE [y] r).G (eE q):=by
 rw[A4,A4];simp only[d6]
 congr 1
def LB(E y:Str):(E++y).cps.size=E.cps.size+y.cps.size:=by show ahh
def abP(r:Str):("":Str)++r=r:=by
 obtain⟨g⟩:=r;split (#[(("":Str).cps++g)]:Str)= #[g];have:(("":Str).cps)=(gn []):=j
 rw[this];simp
theorem S5(E y:Str):((f5 E y).G λr=>(fQ 13 (.str r)).G (f5 ""))=f5 E y:=by
 unfold f5;by_cases z:aU (E.cps.size+y.cps.size)=L
 .rw[aL z];split (fQ 13 (.str (E++y))).G _=_;let Q:fQ 13 (.str (E++y))=P.N (E++y):=by unfold fQ;split (if aU (E++y).cps.size then _ else _)=_;rw[LB,aL z]
  rw[Q];split (if aU ((("":Str).cps.size)+(E++y).cps.size)=L then _ else _)=_;rw[show(("":Str).cps.size)=0 from j,em,LB,aL z,abP]
 .rw[aS z];rfl
def Ox(A v:ah):pp (.mk .bV [A,v])=(pp A).G (eE [v]):=by
 rw[<-w8];unfold pp;rw[show eval (.mk .bV [A,v])=(eE [A,v] "").G λr=>P.N (.str r) from j,d6];split ((eE [A,v] "").G λr=>(fQ 13 (.str r)).G (f5 ""))=_;let Q:∀E y:ah,eE [E,y] ""=(pp E).G λr=>(eval y).G λB=>(fQ y.kind B).G λD=>f5 r D:=λE y=>by rw[w8];congr 1;funext r;rw[A4];congr 1;funext B;congr 1;funext D;have:(λr=>eE [] r)=P.N:=j;show q4 _
 rw[Q];simp only[d6,S5]
theorem Ow:∀(q:List ah)(E:ah),pp (q.foldl (λA v=>.mk .bV [A,v]) E)=(pp E).G (eE q):=by
 intro q
 induction q with
 |nil=>intro E;show(q4 _).symm
 |cons y q w=>
  intro E;rw[ahr,w,Ox,d6]
  congr 1;funext r
  show(A3 y q r).symm
theorem Q2(D c:List ah):∀r,eE (D++c) r=(eE D r).G (eE c):=by
 induction D with
 |nil=>intro r;rfl
 |cons y q w=>intro r;rw[zD,A3,A3 y q];show(aN _ (funext w)).trans (d6 ..).symm
theorem Xf(z:1<dE.length):∃E y,jS dE=[E,y]/\eE dE ""=eE [E,y] "":=by
 unfold jS;by_cases o:2<dE.length
 .rw[aL o];obtain⟨l,v,rfl⟩:∃l v,dE=l++[v]:= #[dE.dropLast,dE.getLast (by intro Q;rw[Q] at z;cases z),(Nk _).symm];rw[Nj,Mp];obtain _|⟨E,q⟩:=l
  .simp at o
  show#[q.foldl (λA v=>.mk .bV [A,v]) E,v,j,?_];rw[w8,Ow,zD,w8,d6]
  congr 1;funext r
  show Q2 q [v] r
 .rw[aS o];obtain _|⟨E,_|⟨y,_|_⟩⟩:=dE
  .cases(afH _) z
  .cases(hp _) z
  .show#[E,y,j,j]
  .cases o (fE 3 _)
def DQ{E y:ah}(u:e1 E)(e:e1 y):eC [E,y]:= #[a9 u.jU (a9 e.jU j),a9 u.gi (a9 e.gi j)]
theorem RS:∀(q:List ah)(E:ah),e1 E->eC q->e1 (q.foldl (λA v=>.mk .bV [A,v]) E):=by
 intro q
 induction q with
 |nil=>intro E u _;show u
 |cons y q w=>intro E u e;show w _ #[(DQ u e.hS).jU,(DQ u e.hS).gi] e.cons.2
theorem eC.app:∀{E b:List ah},eC (E++b)->eC E/\eC b:=by
 intro q
 induction q with
 |nil=>intro b u;show#[#[j,j],u]
 |cons Q q w=>
  intro b u;show have e:=eC.cons (r:=q++b) u
   let o:=w e.2
   #[#[a9 e.1.jU o.1.jU,a9 e.1.gi o.1.gi],o.2]
theorem Xh(u:eC dE):eC (jS dE):=by
 unfold jS;by_cases o:2<dE.length
 .rw[aL o];obtain⟨l,v,rfl⟩:∃l v,dE=l++[v]:= #[dE.dropLast,dE.getLast (by intro Q;rw[Q] at o;cases o),(Nk _).symm];rw[Nj,Mp];obtain _|⟨E,q⟩:=l
  .cases o with|step z=>cases z
  .show DQ (RS q E u.app.1.hS u.app.1.cons.2) u.app.2.hS
 .rw[aS o];show u
inductive nS(h:bP)(Q:List bc×List ah×Int->Prop):eg->Prop
 |mk {r:List bc×List ah×Int}:Q r->nS h Q (r.1,.mk h r.2.1,r.2.2)
structure tH(aa:List ah)(c:Int)(r:List bc×List ah×Int):Prop where
 le:c<=r.2.2
 gu:eQ c r.2.2 (execs r.1) (cR aa) (cR r.2.1)
structure Fx(e:ah)(c:Int)(r:eg):Prop where
 le:c<=r.2.2
 qI:dM c r.2.2 (execs r.1) (hX [e]) (hX [r.2.1])
structure wc(m:P V)(aQ:Int)(c:Int)(r:eg):Prop where
 le:c<=r.2.2
 gu:eQ c r.2.2 (execs r.1) m (eval r.2.1)
 aQ:r.2.1.kind=aQ
 f0:bG r.2.1.aM=ak
def uh(z:bP):Bool:=cA z.ctorIdx 8||cA z.ctorIdx 9
structure ja(k:Nat):Prop where
 eX:tU (cq k)
 Kb:∀h aa c,uh h=L->e1 (.mk h aa)->a7 (nS h (tH aa c)) (cq k (.mk h aa) c)
 ci:pc (nm k)
 cD:pc (k2 k)
 fix:pc (nk k)
 taken:∀e c,e1 e->a7 (Fx e c) (ou k e c)
 parts:∀h aa c,eC aa->a7 (nS h (KdS aa c)) (gw k h aa c)
 Xu:∀a b c,eC [a,b]->a7 (nS .bV (Ah a b c)) (gw k .bV [a,b] c)
 Xs:∀h aa c,uh h=L->eC [.mk h aa]->a7 (nS .ref λr=>∃dn,r.2.1=[.mk h dn]/\tH aa c (r.1,dn,r.2.2)) (gw k .ref [.mk h aa] c)
 jz:∀aQ t c,e1 t->a7 (wc (eval (.mk (.cb aQ) [t])) aQ c) (pK k aQ t c)
 ch:∀aQ t a b c,eC [t,a,b]->a.kind=aQ->b.kind=aQ->a7 (wc (w7 [t,a,b]) aQ c) (pL k aQ t a b c)
def aam:ja 0:= #[λa a a=>trivial,λa a a a a=>trivial,λa a a=>trivial,λa a a=>trivial,λa a a=>trivial,λa a a=>trivial,λa a a a=>trivial,λa a a a=>trivial,λa a a a a=>trivial,λa a a a=>trivial,λa a a a a a a a=>trivial]
def Xx(w:ja k):∀z H g,eC H->a7 (nS z (KdS H g)) (gw (k+1) z H g):=λz H g u=>(IP w.eX w.ci _ _ _ u).G λq x=>.mk x
def Xv(w:ja k):∀E y g,eC [E,y]->a7 (nS .bV (Ah E y g)) (gw (k+1) .bV [E,y] g):=λE y g u=>(text2 w.eX w.ci u).G λq x=>.mk x
def Xt(w:ja k):∀z H g,uh z=L->eC [.mk z H]->a7 (nS .ref λq=>∃T,q.2.1=[.mk z T]/\tH H g (q.1,T,q.2.2)) (gw (k+1) .ref [.mk z H] g):=λz H g m u=>
 a7.G (Q:=λq:List bc×List ah×Int=>∃T,q.2.1=[.mk z T]/\tH H g (q.1,T,q.2.2)) ((w.Kb z H g m u.hS).G λq x=>by
  cases x with
  |mk x=>show#[_,j,x]) λq x=>.mk x
def Ii(w:ja k)(u:e1 e)(a:bG e.aM=ak):a7 (wl e c) (eI (cq k e (c+1)) λ(v,J,bW)=>I (v++[bc.cD (c+1) J],jq e.kind (c+1),bW)):=
 (w.eX e (c+1) u).G λq x=>by
  let y:dM c q.2.2 (execs (q.1++[.cD (c+1) q.2.1])) ((eval e).G P.N) (jf e.kind (c+1)):=by rw[sf];split dM _ _ ((execs q.1).G λb=>(eval q.2.1).G λB=>my (c+1) q.2.1.kind B) _ _;rw[x.aQ];show x.gu.yV (λB=>(bT.N B).dX) (λB=>Bq (m:=P.N B) (f:=λB=>B) (bT.N B).ev (mO c) x.le) (iJ (mO c))
  rw[q4] at y;show#[iJ x.le,y,j,a.symm]
def qH:bP->Bool
 |.const _ _|.this _|.ref=>ak
 |_=>L
theorem xY(l:qH h=L):k2 (k+1) (.mk h aa) c=eI (cq k (.mk h aa) (c+1)) λ(v,J,bW)=>I (v++[bc.cD (c+1) J],jq (ah.mk h aa).kind (c+1),bW):=by
 cases h
 case const=>cases l
 case this=>cases l
 case ref=>cases l
 all_goals rfl
theorem Bv{P:bP->Prop}(z:bP)(g:∀n B,P (.const n B))(r:∀n,P (.this n))(q:P .ref)(s:∀z,qH z=L->bG z=ak->cA z.ctorIdx 0=ak->P z):P z:=by
 cases z with
 |const n B=>show g n B
 |this n=>show r n
 |ref=>show q
 |_=>show s _ j j j
inductive tK:bP->Prop
 |const (aQ:Int) (v:V):tK (.const aQ v)
 |this (aQ:Int):tK (.this aQ)
 |ref:tK .ref
def Ij(l:qH h=ak):tK h:=Bv (P:=λh=>qH h=ak->tK h) h (λa a a=>.const _ _) (λa a=>.this _) (λa=>.ref) (λh s a a l=>cH (s.symm.trans l).symm kA) l
def TC(w:ja k):pc (k2 (k+1)):=λQ g u=>by
 obtain⟨z,H⟩:=Q;let d:∀{z:bP}(B:V),bG z=ak->eval (.mk z H)=P.N B->wl (.mk z H) g ([],.mk z H,g):=λB x a=> #[kD _,by rw[a];show dM.refl g λA=> #[B,λC=>j],j,j];show Bv (P:=λz=>e1 (.mk z H)->a7 (wl (.mk z H) g) (k2 (k+1) (.mk z H) g)) z (λn B u=>?_) (λn u=>?_) (λb=>trivial) (λz l x b u=>?_) u
 .let v:=u.top;obtain _|_:=H
  .show d B j j
  .cases v
 .split a7 _ (if n=16 then I ([],ah.mk (.this n) H,g) else eI _ _);by_cases o:n=16
  .let v:=u.top;rw[aL o];obtain _|_:=H
   .show d ↑1 j (aL o)
   .cases v
  .rw[aS o];show Ii w u j
 .rw[xY l];show Ii w u x
def RI(w:ja k):pc (nk (k+1)):=w.cD
variable{cn:ah}
theorem e1.bO{p:Int}{r E y:ah}(u:e1 (.mk (.bO p) [r,E,y])):E.kind=p/\y.kind=p:=by have:=(aw (aw u.gi).1).2;show#[bS (aw this).1,bS (aw this).2]
def ui:List V->P Int
 |[↑n]=>gN n 1
 |_=>P.ab
def Hb:List V->V
 |[↑n]=>.J [↑n,↑1]
 |_=>.none
def ua:List V->P Int
 |[↑n,↑i]=>gN n (1+i)
 |_=>P.ab
def GN:List V->V
 |[↑n,↑i]=>.J [↑n,↑(1+i)]
 |_=>.none
theorem A1(H:List ah):hX [.mk .dB H]=(cR H).G λO=>(ui O).G λa=>P.N (Hb O):=aN (cR H).G (funext λO=>by
 obtain _|⟨E,_|⟨y,q⟩⟩:=O
 .rfl
 .cases E<;>rfl
 .cases E<;>rfl)
theorem A0(H:List ah):hX [.mk .c8 H]=(cR H).G λO=>(ua O).G λa=>P.N (GN O):=aN (cR H).G (funext λO=>by
 obtain _|⟨E,_|⟨y,q⟩⟩:=O
 .rfl
 .cases E<;>rfl
 .cases E
  case int=>cases y<;>first|rfl|(cases q<;>rfl)
  all_goals rfl)
theorem Q4(H:List ah):((eval (.mk .dB H)).G λa=>P.N bL)=(cR H).G λO=>(ui O).G λa=>P.N bL:=(d6 _ _ _).trans (aN (cR H).G (funext λO=>by
 obtain _|⟨E,_|⟨y,q⟩⟩:=O
 .rfl
 .cases E
  case int=>show d6 _ _ _
  all_goals rfl
 .cases E<;>rfl))
theorem Q3(H:List ah):((eval (.mk .c8 H)).G λa=>P.N bL)=(cR H).G λO=>(ua O).G λa=>P.N bL:=(d6 _ _ _).trans (aN (cR H).G (funext λO=>by
 obtain _|⟨E,_|⟨y,_|⟨x,q⟩⟩⟩:=O
 .rfl
 .cases E<;>rfl
 .cases E
  case int=>
   cases y
   case int=>show d6 _ _ _
   all_goals rfl
  all_goals rfl
 .cases E
  case int=>cases y<;>rfl
  all_goals rfl))
def Ha{Q:P Int->Prop}(z:Q P.ab)(p:∀U i,Q (gN U i))(O:List V):Q (ui O):=by
 obtain _|⟨E,_|⟨y,q⟩⟩:=O
 .show z
 .cases E
  case int=>show p _ _
  all_goals show z
 .cases E<;>show z
def GL{Q:P Int->Prop}(z:Q P.ab)(p:∀U i,Q (gN U i))(O:List V):Q (ua O):=by
 obtain _|⟨E,_|⟨y,_|⟨x,q⟩⟩⟩:=O
 .show z
 .cases E<;>show z
 .cases E
  case int=>
   cases y
   case int=>show p _ _
   all_goals show z
  all_goals show z
 .cases E
  case int=>cases y<;>show z
  all_goals show z
def G':∀O,hr (ui O):=Ha bT.ab.dX λa a=>(sj _ _).dX
def GK:∀O,hr (ua O):=GL bT.ab.dX λa a=>(sj _ _).dX
def Rr:zQ ui:=λB=>Ha (Q:=λm=>∀A a Y,m A=.ok a Y->Y=A/\∀C,f9 A C->∃s,m C=.ok s C) (λb b b z=>nomatch z) (λb b b b b z=>Lv z) B
def QO:zQ ua:=λB=>GL (Q:=λm=>∀A a Y,m A=.ok a Y->Y=A/\∀C,f9 A C->∃s,m C=.ok s C) (λb b b z=>nomatch z) (λb b b b b z=>Lv z) B
def Ia{u:P Unit}(z:dM c aF u (eval e) (eval cn)):dM c aF u (cR [e]) (cR [cn]):=by rw[r',r'];show z.look λB A=> #[j,λa a=>j]
theorem a7.nil{a:aq->Prop}{d:Option aq}(Q:d=au):a7 a d:=Q▸trivial
set_option tactic.hygienic true in
@[elab_as_elim] theorem CM{a:bP->List ah->Prop}(z:bP)(H:List ah)(T:∀p i,a (.aj p i) [])(t:∀q,a .dB [q])(Q:∀E i,a .c8 [E,i])(d:∀z H,(∀p g,ou (p+1) (.mk z H) g=au)->a z H):a z H:=by
 cases z
 case aj p i=>cases H with
  |nil=>show T p i
  |cons=>show d _ _ λb b=>j
 case dB=>
  obtain _|⟨q,_|_⟩:=H
  .show d _ _ λb b=>j
  .show t q
  .show d _ _ λb b=>j
 case c8=>
  obtain _|⟨E,_|⟨i,_|_⟩⟩:=H
  .show d _ _ λb b=>j
  .show d _ _ λb b=>j
  .show Q E i
  .show d _ _ λb b=>j
 all_goals show d _ _ λb b=>j
def ab3{p:Nat}(w:ja p):∀Q a,e1 Q->a7 (Fx Q a) (ou (p+1) Q a):=λQ a u=>by
 obtain⟨z,H⟩:=Q;let J:=u.dK;clear u;revert J;show CM z H (λb b b=> #[kD _,dM.refl a λA=> #[_,λC=>j]]) (λq J=>?_) (λE i J=>?_) λb b Q b=>.nil (Q ..)
 .split a7 _ (if q.kind=16 then _ else _);split
  .show(w.fix q a J.hS).G λe x=> #[x.le,?_];split dM _ _ (execs (e.1++[.expr (.mk .dB [e.2.1])])) (hX [.mk .dB [q]]) (hX [.mk .dB [e.2.1]]);rw[sf,A1,A1];let T:=(Ia x.qI).check Rr (g:=Hb) G';rw[<-Q4] at T;show T
  .trivial
 .show(w.fix E a J.hS).G λe x=>(w.fix i e.2.2 J.at2).G λo dO=> #[fg x.le dO.le,?_];split dM _ _ (execs (e.1++o.1++[.expr (.mk .c8 [e.2.1,o.2.1])])) (hX [.mk .c8 [E,i]]) (hX [.mk .c8 [e.2.1,o.2.1]]);rw[sf,A0,A0,sd];let c:dM a o.2.2 ((execs e.1).G λb=>execs o.1) (cR [E,i]) (cR [e.2.1,o.2.1]):=x.qI.two (Ia dO.qI) (se _) J.cons.2.dX x.le dO.le;let T:=c.check QO (g:=GN) GK;rw[<-Q3] at T;show T
def Tu{p:Nat}(w:ja p):pc (nm (p+1)):=λQ g u=>by
 let y:=w.cD Q g u;obtain⟨z,H⟩:=Q;let J:=u.dK;clear u;cases z
 case ref=>
  obtain _|⟨q,_|_⟩:=H
  .show y
  .show(w.taken _ _ J.hS).G λe x=> #[x.le,x.qI,j,j]
  .show y
 all_goals show y
def Ol(w:ja k):∀n r g,e1 r->a7 (wc (eval (.mk (.cb n) [r])) n g) (pK (k+1) n r g):=λn r g u=>(w.eX r g u).G λe x=>by show#[fg x.le (iJ (mO _)),?_,j,j];split eQ g (e.2.2+1) (execs (e.1++[.cb (e.2.2+1) n e.2.1])) ((cR [r]).G (iR (.cb n) [r])) (jf n (e.2.2+1));rw[sf,r',d6];let y:dM g (e.2.2+1) ((execs e.1).G λb=>(eval e.2.1).G λB=>(oP B).G λa=>my (e.2.2+1) n (ik n a)) ((eval r).G λB=>(oP B).G λa=>P.N (ik n a)) (jf n (e.2.2+1)):=x.gu.yV (λB=>(xf B).dX.G λb=>(bT.N _).dX) (λB=>Bq (m:=oP B) (f:=ik n) (xf B).ev (agW x.le) (kD _)) (kD _);show y.w0
set_option tactic.hygienic true in
theorem Tr{q:P aq}{s:Int->P Unit}{n:Int->P aq}(B:V)(z:∀i,dM c aF (s i) (n i) q):dM c aF ((c1 B).G s) ((c1 B).G n) q:=by
 cases B
 case int i=>show z i
 all_goals show λA=>trivial
def Ts{q:P aq}{l:Prop}[Decidable l]{s a:P Unit}{n r:P aq}(z:dM c aF s n q)(p:dM c aF a r q):dM c aF (if l then s else a) (if l then n else r) q:=by
 split
 .show z
 .show p
def Pq(w:ja k):∀n r E y g,eC [r,E,y]->E.kind=n->y.kind=n->a7 (wc (w7 [r,E,y]) n g) (pL (k+1) n r E y g):=λn r E y g u z A=>
 (w.eX r g u.hS).G λe x=>by
  let Y:∀B,hr ((c1 B).G λi=>if i=1 then eval E else eval y):=λB=>(fY B).dX.G λi=>by
   split
   .show u.at2.dX
   .show u.FS.dX
  split a7 _ (if ct E||ct y then _ else _);split
  .show(w.eX E _ u.at2).G λo b=>(w.eX y _ u.FS).G λa h=>?_;let b4:g<=e.2.2+1:=fg x.le (iJ (mO _));let cp:e.2.2+1<=a.2.2:=fg b.le h.le;let l:∀{C q:Int}{d:List bc}{s p:ah},eQ C q (execs d) (eval s) (eval p)->g<=C->p.kind=n->dM g a.2.2 (execs (d++[.cD (e.2.2+1) p])) (eval s) (jf n (e.2.2+1)):=λ{C q d s p} t c v=>by let D:dM g a.2.2 ((execs d).G λH=>(eval p).G λB=>my (e.2.2+1) n B) ((eval s).G P.N) (jf n (e.2.2+1)):=t.yV (λB=>(bT.N B).dX) (λB=>Bq (m:=P.N B) (f:=λB=>B) (bT.N B).ev (nM x.le (mO _)) cp) c;rw[q4,<-v] at D;rw[sf,<-v];show D
   show#[fg b4 cp,dM.w0 ?_,j,j];split dM g a.2.2 (execs (e.1++[.bO e.2.1 _ _])) ((eval r).G λB=>(c1 B).G λi=>if i=1 then eval E else eval y) (jf n (e.2.2+1));rw[sf];show x.gu.yV Y (λB=>Tr B λi=>Ts (l b.gu b4 (b.aQ.trans z)) (l h.gu (fg b4 b.le) (h.aQ.trans A))) (kD _)
  .show#[x.le,x.gu.G Y,j,j]
variable{p:List bc}
structure NG(es:List ah)(c:Int)(r:List bc×Int):Prop where
 le:c<=r.2
 K2:nU c (execs r.1) (cR es)
theorem QM{t:ah->Int->Option eg}(n:tU t):∀(b:List ah)(g:Int),eC b->a7 (NG b g) (qU t b g):=by
 intro q
 induction q with
 |nil=>intro g u;show#[kD _,λA=> #[A.ci,j,.refl _ _]]
 |cons Q q w=>intro g u;show(n Q g u.hS).G λe x=>(w e.2.2 u.cons.2).G λo dO=>by show#[fg x.le dO.le,?_];split nU g (execs (e.1++.expr e.2.1::o.1)) (cR (Q::q));rw[sd];let y:=x.gu.Zh.two (k:=λB O=>B::O) dO.K2 u.cons.2.dX x.le;rw[d6] at y;show y
def ma:bP->Bool
 |.cb _=>ak
 |.seq _=>ak
 |.bO _=>ak
 |.dJ _=>ak
 |.bV=>ak
 |_=>L
set_option tactic.hygienic true in
@[elab_as_elim] theorem Ci{P:bP->Prop}{z:bP}(s:ma z=ak)(b:∀p,P (.cb p))(c:∀p,P (.seq p))(i:∀p,P (.bO p))(G:∀p,P (.dJ p))(a:P .bV):P z:=by
 cases z
 case cb p=>show b p
 case seq p=>show c p
 case bO p=>show i p
 case dJ p=>show G p
 case bV=>show a
 all_goals cases s
theorem u'{p:Nat}{z:bP}{H:List ah}{g:Int}(s:ma z=L)(U:ec (.mk z H)<=p)(A:ct (.mk z H)=L):cq (p+1) (.mk z H) g=gw p z H g:=by
 show(aL U).trans ((aL A).trans ?_);clear U A;cases z
 case cb=>cases s
 case seq=>cases s
 case bO=>cases s
 case dJ=>cases s
 case bV=>cases s
 all_goals rfl
def x5{Q:eg->Prop}(z:ct e=ak->Q ([],e,c))(s:ec e<=k->ct e=L->a7 Q (cq (k+1) e c)):a7 Q (cq (k+1) e c):=by
 by_cases U:ec e<=k
 .rcases A:ct e with _|_
  .let g:cq (k+1) e c=I ([],e,c):=(aL U).trans (aS (by rw[A];show kA));rw[g];show z A
  .show s U A
 .let g:cq (k+1) e c=au:=aS U;rw[g];trivial
def SR(w:ja k)(t:iZ h=L)(v:ow h=L)(u:e1 (.mk h aa)):a7 (pg (.mk h aa) c) (gw k h aa c):=
 (w.parts h aa c u.dK).imp λq x=>by
  cases x with
  |mk x=>show#[x.le,?_,j,j];rw[lw _ t,lw _ t,app_congr x.ac x.dH];show x.gu.G λO=>(A' v aa O).dX
set_option tactic.hygienic true in
@[elab_as_elim] theorem XM{Q:bP->Prop}(z:bP)(T:∀p i,Q (.aj p i))(t:Q .dB)(a:Q .c8)(d:∀z,(∀H,hX [.mk z H]=P.ab)->Q z):Q z:=by
 cases z
 case aj p i=>show T p i
 case dB=>show t
 case c8=>show a
 all_goals show d _ λb=>j
def Zs(w:ja k)(u:e1 (.mk .ref aa))(A:ct (.mk .ref aa)=L):a7 (pg (.mk .ref aa) c) (gw k .ref aa c):=by
 obtain _|⟨⟨o,U⟩,_|_⟩:=aa
 .cases u.top
 .let du:∀{o:bP}{n:List V->P Int}{a:List V->V},uh o=L->(∀aa,hX [.mk o aa]=(cR aa).G λO=>(n O).G λl=>P.N (a O))->(∀O,hr (n O))->eC [.mk o U]->a7 (pg (.mk .ref [.mk o U]) c) (gw k .ref [.mk o U] c):=λm b d J=>(w.Xs _ U c m J).imp λq x=>by
   cases x with
   |mk x=>obtain⟨T,f,x⟩:=x;show#[x.le,?_,j,j];split eQ _ _ _ (hX _) (hX _);rw[f,b,b];show x.gu.G λO=>(d O).G λl=>(bT.N _).dX
  show XM (Q:=λo=>ct (.mk .ref [.mk o U])=L->eC [.mk o U]->a7 (pg (.mk .ref [.mk o U]) c) (gw k .ref [.mk o U] c)) o (λg i A J=>?_) (λl=>du j A1 G') (λl=>du j A0 GK) (λo e l J=>(w.parts _ _ c J).imp λq x=>?_) A u.dK
  .obtain _|_:=U
   .show cY A
   show cY J.hS.top
  .cases x with
   |mk x=>show#[x.le,?_,j,j];split eQ _ _ _ (hX _) (hX _);rw[e];show λh=>trivial
 .cases u.top
def abv{p:Nat}(w:ja p):tU (cq (p+1)):=λQ g u=>by
 show x5 (λc=> #[kD _,eQ.refl g u.dX,j,j]) λU A=>?_;obtain⟨z,H⟩:=Q;let v:=u.top;rcases s:ma z with _|_
 .rw[show cq (p+1) (.mk z H) g=_ from(aL U).trans (aL A)];clear U A;revert u v;show Ci s (λn u v=>?_) (λn u v=>?_) (λn u v=>?_) (λi u v=>?_) λu v=>?_
  .obtain _|⟨r,_|_⟩:=H
   .cases v
   .show(w.jz n r g u.dK.hS).imp λq x=> #[x.le,x.gu,x.aQ,x.f0]
   .cases v
  .obtain _|⟨B,b⟩:=H
   .cases v
   .show(QM w.eX b g u.dK.cons.2).G λe x=>(w.eX B _ u.dK.hS).G λo dO=>?_;show#[fg x.le dO.le,?_,dO.aQ.trans u.seq.1,dO.f0.trans u.seq.2];split eQ _ _ (execs (e.1++o.1)) _ _;rw[sd];show x.K2.w0 dO.gu u.dK.hS.dX x.le
  .obtain _|⟨r,_|⟨E,_|⟨y,_|_⟩⟩⟩:=H
   .cases v
   .cases v
   .cases v
   .show(w.ch n r E y g u.dK u.bO.1 u.bO.2).imp λq x=> #[x.le,x.gu,x.aQ,x.f0]
   .cases v
  .obtain _|⟨B,_|_⟩:=H
   .cases v
   .split a7 _ (if 2<=p then _ else _);split
    .show(w.eX B g u.dK.hS).G λe x=> #[x.le,?_,j,j];split eQ _ _ _ ((cR [B]).G (iR (.dJ i) [B])) ((cR [e.2.1]).G (iR (.dJ i) [e.2.1]));rw[r',r',d6,d6];show x.gu.G λB=>(fY B).dX.G λc=>(xe _ _).dX.G λc=>(bT.N _).dX
    .trivial
   .cases v
  .obtain⟨E,y,f,d⟩:=Xf (vR.mp v);let a:=Xh u.dK;split a7 _ (gw p .bV (jS H) g);rw[f] at a|-;show(w.Xu E y g a).imp λq x=>?_;cases x with
   |mk x=>show#[x.le,?_,j,j];split eQ _ _ _ ((eE H "").G _) ((eE _ "").G _);rw[d];show x.gu.G λr=>(bT.N _).dX
 .rw[u' s U A];rcases t:iZ z with _|_
  .show JR (P:=λz=>e1 (.mk z H)->ct (.mk z H)=L->ma z=L->a7 (pg (.mk z H) g) (gw p z H g)) t (λc c c s=>cY s) (λc c c s=>cY s) (λu A c=>Zs w u A) (λc c s=>cY s) u A s
  .show SR w t (aw u.jU).1 u
theorem XK(w:ja k):∀z H g,uh z=L->e1 (.mk z H)->a7 (nS z (tH H g)) (cq (k+1) (.mk z H) g):=λz H g m u=>by
 show x5 (λa=>.mk (r:=([],H,g)) #[kD _,eQ.refl g u.dK.dX]) λU A=>?_;let s:ma z=L:=by
  cases z
  case dB=>rfl
  case c8=>rfl
  all_goals cases m
 rw[u' s U A];show(w.parts z H g u.dK).imp λq x=>by
  cases x with
  |mk x=>show .mk #[x.le,x.gu]
theorem Z0:∀p,ja p:=by
 intro p
 induction p with
 |zero=>show aam
 |succ p w=>show#[abv (w),XK (w),Tu (w),TC (w),RI (w),ab3 (w),Xx (w),Xv (w),Xt (w),Ol (w),Pq (w)]
def abz(l:cq k e c=I (p,cn,aF))(u:e1 e):c<=aF/\eQ c aF (execs p) (eval e) (eval cn)/\cn.kind=e.kind/\bG cn.aM=bG e.aM:=
 let x:=((Z0 k).eX e c u).of l
 #[x.le,x.gu,x.aQ,x.f0]
variable{sc:List Int}{s vz:aG}{v u:V}{D:aG}{c4 r:List V}{h_:V}
abbrev ag(C:List O)(k:Nat):Str->List V->M V:=jo C oc eG k
def bX(m:M V)(B:V):Prop:=∀D,∃Y,m D=.ok B (D++Y)
def a8{m:M aq}{t:aq->M aC}{a:aq}(z:m s=.ok a vz):(m.G t) s=t a vz:=by unfold M.G;rw[z]
def Jt{m:M aq}{t:aq->M aC}(z:m s=.exc vz):(m.G t) s=.exc vz:=by unfold M.G;rw[z]
theorem bX.N(B:V):bX (M.N B) B:=λp=> #[[],by rw[dS];rfl]
theorem bX.G{m:M V}{f:V->M V}(z:bX m v)(s:bX (f v) u):bX (m.G f) u:=λp=>by obtain⟨Y,Q⟩:=z p;obtain⟨y,d⟩:=s (p++Y);show#[Y++y,by rw[a8 Q,d,ez]]
def dU(p:aG)(d:O):(p++[d])[p.length]?=I d:=by simp
def k7(p:aG)(d B:O):(p++[d]).set p.length B=p++[B]:=by simp
def kq(d:O)(t:Nat->M aC)(p:aG):((M.new d).G t) p=t p.length (p++[d]):=j
def r0{t:Unit->M aC}(z:D[n]?=I (.list vs))(b:vs.length<=4000000):((l2 ⇑n v).G t) D=t bL (D.set n (.list (vs++[v]))):=by show a8 (a:=bL) ?_;split (match D[n]? with|some (.list vs)=>(match aU vs.length with|true=>M.put n (.list (vs++[v]))|false=>M.ab)|_=>M.ab:M Unit) D=_;rw[z];show congrFun (g1 (j2.mpr b)) D
def Rg{t:Unit->M aC}(z:D[n]?=I (.list vs))(b:vs.length+c4.length<=4000000):((sg ⇑n (.J c4)).G t) D=t bL (D.set n (.list (vs++c4))):=by show a8 (a:=bL) ?_;split (match D[n]? with|some (.list vs)=>(match aU (vs.length+c4.length) with|true=>M.put n (.list (vs++c4))|false=>M.ab)|_=>M.ab:M Unit) D=_;rw[z];show congrFun (g1 (j2.mpr b)) D
def eM(o:V):M V:=(uK o).G λl=>match aU l.length with
 |true=>M.N (.J l)
 |false=>M.ab
theorem lN(z:D[n]?=I (.list vs))(b:vs.length<=4000000):eM ⇑n D=.ok (.J vs) D:=by
 unfold eM;rw[a8 (a:=vs) (vz:=D)]
 .have:aU vs.length=L:=j2.mpr b;rw[this];rfl
 .split (match D[n]? with|some (.list vs)=>M.N vs|_=>M.ab:M (List V)) D=_;rw[z];rfl
def et{h:Type}(C:List O)(U:Nat)(o:V)(m:Str)(a:List V)(k:V->M h):M h:=(e' C o m).G λl=>(k1 #[C,[],ag C U,λb=>ak,ak,#[.function,[],ak,ak,[]]] o l a).G k
theorem sV(z:D[n]?=I (.list vs)):e' C ⇑n c9 D=.ok .app D:=by rw[show e' C ⇑n c9=M.get λD=>match D[n]? with|some (.list _)=>M.N hN.app|_=>M.ab from#[],M.get,z];rfl
theorem X4(z:D[n]?=I (.list vs)):e' C ⇑n "extend" D=.ok .ext D:=by rw[show e' C ⇑n "extend"=M.get λD=>match D[n]? with|some (.list _)=>M.N hN.ext|_=>M.ab from#[],M.get,z];rfl
theorem n1{t:V->M aC}(z:D[n]?=I (.list vs))(b:vs.length<=4000000):et C k ⇑n c9 [v] t D=t .none (D.set n (.list (vs++[v]))):=by unfold et;rw[a8 (sV z)];split (((l2 ⇑n v).G λa=>M.N V.none).G t) D=_;rw[hv,r0 z b];rfl
theorem G5{t:V->M aC}(z:D[n]?=I (.list vs))(b:vs.length+c4.length<=4000000):et C k ⇑n "extend" [.J c4] t D=t .none (D.set n (.list (vs++c4))):=by unfold et;rw[a8 (X4 z)];split (((sg ⇑n (.J c4)).G λa=>M.N V.none).G t) D=_;rw[hv,Rg z b];rfl
theorem iT(E y:Int):bh C .Eq ↑E ↑y=M.N (E==y):=by rfl
inductive NH where
 |Ay (a b:List dF)
 |u3 (t:aW) (b:List dF)
 |ty (b:List dF)
 |asg (q:List aW)
 |no
def rg:dF->NH
 |.Assign q _ _=>.asg q
 |.For t _ b _ _=>.u3 t b
 |.If _ a b _=>.Ay a b
 |.Try b _ _ _ _=>.ty b
 |_=>.no
def abT(s:dF):Option (List dF×Option (List dF)):=match rg s with
 |.Ay a b=>I (a,I b)
 |.u3 _ b=>I (b,au)
 |.ty b=>I (b,au)
 |_=>au
def sA:List Nat->List dF->Option dF
 |[],_=>au
 |[i],d=>d[i]?
 |i::Y::r,d=>match Mz (d[i]?) abT with
  |some (a,o)=>match o with
   |some b=>sA r (match Y with
    |0=>a
    |_=>b)
   |none=>sA (Y::r) a
  |none=>au
def n6(C:List O)(k:Nat)(f:Str):b5:=match aT f eG with
 |some r=> #[C,oc,ag C k,λx=>(aT x eG).isSome,ak,r.d.scope]
 |none=> #[C,oc,ag C k,λx=>(aT x eG).isSome,ak,#[.function,[],ak,ak,[]]]
def hZ{h:Type}(f:V->ap->(ap->M h)->M h)(Y:ap)(c:ap->M h)(B:V):M h:=match B with
 |.J vs=>cf f vs Y c
 | ⇑i=>M.get λD=>match D[i]? with
  |some (.list vs)=>h5 f i vs.length 0 Y c
  |some (.id es)=>kY f i (es.map (·.1)) (es.map (·.1)) Y c
  |some (.aX [])=>c Y
  |_=>M.ab
 |_=>M.ab
def RT(s:dF):Option (aW×List dF):=match rg s with
 |.u3 t b=>I (t,b)
 |_=>au
def a5(C:List O)(k:Nat)(f:Str)(a:List Nat)(U:Nat)(B:V)(Y:ap)(c:ap->M V):M V:=match Mz (aT f eG) λr=>Mz (sA a r.d.body) RT with
 |some (t,b)=>(M.opt (hd [] (n6 C k f).sc t B Y)).G λu=>gZ (n6 C k f) U [] b u c M.N
 |none=>M.ab
def Yz(g:Int)(q:List V):ag (aH sc) (k+1) ic [.J (↑g::q)]=(kT (aH sc) (.C 0) ↑g (.J [])).G λv=>(ag (aH sc) k iD [.J (↑g::q),v]).G M.N:=by ac_rfl
def YK(q:V):ag C (k+1) iD [q,.J []]=(M.new (.list [])).G λd=>(eM ⇑d).G M.N:=by ac_rfl
def YI(e a1:V)(q:List V):ag C (k+1) iD [.J (e::a1::.none::q),.J [.J [↑2,↑2]]]=(M.new (.list [])).G λd=>(eM ⇑d).G M.N:=by ac_rfl
def YC(e a1:V)(E q:List V):ag C (k+1) iD [.J (e::a1::.J E::q),.J [.J [↑2,↑2]]]=(M.new (.list [])).G λd=>et C k ⇑d c9 [.J E] λa=>(eM ⇑d).G M.N:=by ac_rfl
def YO(e a1 b:V)(E q:List V):ag C (k+1) iD [.J (e::a1::b::.J E::q),.J [.J [↑3,↑1]]]=(M.new (.list [])).G λd=>et C k ⇑d c9 [.J E] λa=>(eM ⇑d).G M.N:=by ac_rfl
def YQ(e a1 b:V)(E y q:List V):ag C (k+1) iD [.J (e::a1::b::.J E::.J y::q),.J [.J [↑3,↑1],.J [↑4,↑1]]]=(M.new (.list [])).G λd=>et C k ⇑d c9 [.J E] λa=>et C k ⇑d c9 [.J y] λa=>(eM ⇑d).G M.N:=by ac_rfl
def YM(e a1:V)(E y q:List V):ag C (k+1) iD [.J (e::a1::.J E::.J y::q),.J [.J [↑2,↑1],.J [↑3,↑1]]]=(M.new (.list [])).G λd=>et C k ⇑d c9 [.J E] λa=>et C k ⇑d c9 [.J y] λa=>(eM ⇑d).G M.N:=by ac_rfl
def YN(e a1:V)(E y x q:List V):ag C (k+1) iD [.J (e::a1::.J E::.J y::.J x::q),.J [.J [↑2,↑1],.J [↑3,↑1],.J [↑4,↑1]]]=(M.new (.list [])).G λd=>et C k ⇑d c9 [.J E] λa=>et C k ⇑d c9 [.J y] λa=>et C k ⇑d c9 [.J x] λa=>(eM ⇑d).G M.N:=by ac_rfl
def Y1(e a1:V)(E q:List V):ag C (k+1) iD [.J (e::a1::.J E::q),.J [.J [↑2,↑3]]]=(M.new (.list [])).G λd=>et C k ⇑d "extend" [.J E] λa=>(eM ⇑d).G M.N:=by ac_rfl
def Y2(e a1 b:V)(E q:List V):ag C (k+1) iD [.J (e::a1::b::.J E::q),.J [.J [↑3,↑3]]]=(M.new (.list [])).G λd=>et C k ⇑d "extend" [.J E] λa=>(eM ⇑d).G M.N:=by ac_rfl
def Yo(e a1 A:V)(E q:List V):ag C (k+1) iD [.J (e::a1::.none::A::.J E::q),.J [.J [↑2,↑2],.J [↑4,↑3]]]=(M.new (.list [])).G λd=>et C k ⇑d "extend" [.J E] λa=>(eM ⇑d).G M.N:=by ac_rfl
def Y4(e a1:V)(E y q:List V):ag C (k+1) iD [.J (e::a1::.J E::.J y::q),.J [.J [↑2,↑3],.J [↑3,↑1]]]=(M.new (.list [])).G λd=>et C k ⇑d "extend" [.J E] λa=>et C k ⇑d c9 [.J y] λa=>(eM ⇑d).G M.N:=by ac_rfl
def YL(e a1:V)(E q:List V):ag C (k+1) iD [.J (e::a1::.J E::q),.J [.J [↑2,↑1]]]=(M.new (.list [])).G λd=>et C k ⇑d c9 [.J E] λa=>(eM ⇑d).G M.N:=by ac_rfl
def FG:bX ((M.new (.list [])).G λd=>(eM ⇑d).G M.N) (.J []):=λp=> #[[.list []],by rw[kq,im,lN (dU _ _) (by simp)]]
theorem Al(E:V):bX ((M.new (.list [])).G λd=>et C k ⇑d c9 [E] λa=>(eM ⇑d).G M.N) (.J [E]):=λp=> #[[.list [E]],by rw[kq,n1 (dU _ _) (by simp),k7,im,lN (dU _ _) (by simp)];rfl]
theorem Am(E y:V):bX ((M.new (.list [])).G λd=>et C k ⇑d c9 [E] λa=>et C k ⇑d c9 [y] λa=>(eM ⇑d).G M.N) (.J [E,y]):=λp=> #[[.list [E,y]],by rw[kq,n1 (dU _ _) (by simp),k7,n1 (dU _ _) (by simp),k7,im,lN (dU _ _) (by simp)];rfl]
theorem NV(E y x:V):bX ((M.new (.list [])).G λd=>et C k ⇑d c9 [E] λa=>et C k ⇑d c9 [y] λa=>et C k ⇑d c9 [x] λa=>(eM ⇑d).G M.N) (.J [E,y,x]):=λp=> #[[.list [E,y,x]],by rw[kq,n1 (dU _ _) (by simp),k7,n1 (dU _ _) (by simp),k7,n1 (dU _ _) (by simp),k7,im,lN (dU _ _) (by simp)];rfl]
theorem wC(E:List V)(z:E.length<=3000000):bX ((M.new (.list [])).G λd=>et C k ⇑d "extend" [.J E] λa=>(eM ⇑d).G M.N) (.J E):=λp=> #[[.list E],by rw[kq,G5 (dU _ _) (by simp;omega),k7,im,lN (dU _ _) (by simp;omega)];rfl]
theorem NW(E:List V)(y:V)(z:E.length<=3000000):bX ((M.new (.list [])).G λd=>et C k ⇑d "extend" [.J E] λa=>et C k ⇑d c9 [y] λa=>(eM ⇑d).G M.N) (.J (E++[y])):=λp=> #[[.list (E++[y])],by rw[kq,G5 (dU _ _) (by simp;omega),k7,n1 (dU _ _) (by simp;omega),k7,im,lN (dU _ _) (by simp;omega)];rfl]
def dH{a:List V}(t:kT (aH sc) (.C 0) ↑c (.J [])=M.N (.J a))(b:bX (ag (aH sc) k iD [.J (↑c::r),.J a]) v):bX (ag (aH sc) (k+1) ic [.J (↑c::r)]) v:=by rw[Yz,t];show(bX.N _).G (b.G (bX.N _))
abbrev hj(a:List Int)(g:Int)(v:List V):Prop:=kT (aH a) (.C 0) ↑g (.J [])=M.N (.J v)
def px:ah->List V
 |.mk h aa=>iq h (bi aa)
theorem ir(Q:ah):ax Q=.J (px Q):=by cases Q;rfl
def uN(t:hj sc c []):bX (ag (aH sc) (k+2) ic [.J (↑c::r)]) (.J []):=dH t (by rw[YK];show FG)
def g4{a1:V}(E:ah)(t:hj sc c [.J [↑2,↑1]]):bX (ag (aH sc) (k+2) ic [.J (↑c::a1::ax E::r)]) (.J [ax E]):=by rw[ir E];show dH t (by rw[YL];show Al _)
def Us{a1:V}(E:ah)(t:hj sc c [.J [↑2,↑2]]):bX (ag (aH sc) (k+2) ic [.J (↑c::a1::ax E::r)]) (.J [ax E]):=by rw[ir E];show dH t (by rw[YC];show Al _)
def Ut{a1:V}(t:hj sc c [.J [↑2,↑2]]):bX (ag (aH sc) (k+2) ic [.J (↑c::a1::.none::r)]) (.J []):=dH t (by rw[YI];show FG)
def Uu{a1:V}(E:ah)(t:hj sc c [.J [↑3,↑1]]):bX (ag (aH sc) (k+2) ic [.J (↑c::a1::h_::ax E::r)]) (.J [ax E]):=by rw[ir E];show dH t (by rw[YO];show Al _)
def IK{a1:V}{E:List V}(y:ah)(t:hj sc c [.J [↑2,↑1],.J [↑3,↑1]]):bX (ag (aH sc) (k+2) ic [.J (↑c::a1::.J E::ax y::r)]) (.J [.J E,ax y]):=by rw[ir y];show dH t (by rw[YM];show Am _ _)
def IL{a1:V}(E y:ah)(t:hj sc c [.J [↑3,↑1],.J [↑4,↑1]]):bX (ag (aH sc) (k+2) ic [.J (↑c::a1::h_::ax E::ax y::r)]) (.J [ax E,ax y]):=by rw[ir E,ir y];show dH t (by rw[YQ];show Am _ _)
def Ur{a1:V}(E y x:ah)(t:hj sc c [.J [↑2,↑1],.J [↑3,↑1],.J [↑4,↑1]]):bX (ag (aH sc) (k+2) ic [.J (↑c::a1::ax E::ax y::ax x::r)]) (.J [ax E,ax y,ax x]):=by rw[ir E,ir y,ir x];show dH t (by rw[YN];show NV _ _ _)
def IM{a1:V}{E:List V}(t:hj sc c [.J [↑2,↑3]])(z:E.length<=3000000):bX (ag (aH sc) (k+2) ic [.J (↑c::a1::.J E::r)]) (.J E):=dH t (by rw[Y1];show wC _ z)
def Uw{a1:V}{E:List V}(t:hj sc c [.J [↑3,↑3]])(z:E.length<=3000000):bX (ag (aH sc) (k+2) ic [.J (↑c::a1::h_::.J E::r)]) (.J E):=dH t (by rw[Y2];show wC _ z)
def Uv{a1 A:V}{E:List V}(t:hj sc c [.J [↑2,↑2],.J [↑4,↑3]])(z:E.length<=3000000):bX (ag (aH sc) (k+2) ic [.J (↑c::a1::.none::A::.J E::r)]) (.J E):=dH t (by rw[Yo];show wC _ z)
def Ux{a1:V}{E:List V}(y:ah)(t:hj sc c [.J [↑2,↑3],.J [↑3,↑1]])(z:E.length<=3000000):bX (ag (aH sc) (k+2) ic [.J (↑c::a1::.J E::ax y::r)]) (.J (E++[ax y])):=by rw[ir y];show dH t (by rw[Y4];show NW _ _ z)
def vo:bP->List V->List V
 |.seq _=>λ
  |v::es=>es++[v]
  |[]=>[]
 |.dJ i=>λvs=>.J [↑2,↑7,↑i]::vs
 |_=>λvs=>vs
theorem iV(H:List ah):(bi H).length=H.length:=by
 induction H with
 |nil=>rfl
 |cons _ q w=>show aN j4 w
@[elab_as_elim] theorem kf{P:List ah->Prop}(H:List ah)(u:cA H.length 0=L)(z:P []):P H:=by
 obtain _|_:=H
 .show z
 .cases u
@[elab_as_elim] theorem il{P:List ah->Prop}(H:List ah)(u:cA H.length 1=L)(z:∀E,P [E]):P H:=by
 obtain _|⟨E,q⟩:=H
 .cases u
 .show kf (P:=λq=>P (E::q)) q u (z E)
@[elab_as_elim] theorem kP{P:List ah->Prop}(H:List ah)(u:cA H.length 2=L)(z:∀E y,P [E,y]):P H:=by
 obtain _|⟨E,q⟩:=H
 .cases u
 .show il (P:=λq=>P (E::q)) q u (z E)
@[elab_as_elim] theorem r1{P:List ah->Prop}(H:List ah)(u:cA H.length 3=L)(z:∀E y g,P [E,y,g]):P H:=by
 obtain _|⟨E,q⟩:=H
 .cases u
 .show kP (P:=λq=>P (E::q)) q u (z E)
def At(z:cA aa.length 0=L):aa=[]:=kf (P:=λaa=>aa=[]) aa z j
def t5(z:cA aa.length 1=L):∃s T,aa=[.mk s T]:=il (P:=λaa=>∃s T,aa=[ah.mk s T]) aa z λE=>by cases E;show#[_,_,j]
def Oy(z:cA aa.length 3=L):∃s T a cp N fz,aa=[.mk s T,.mk a cp,.mk N fz]:=r1 (P:=λaa=>∃s T a cp N fz,aa=[ah.mk s T,.mk a cp,.mk N fz]) aa z λE y g=>by cases E;cases y;cases g;show#[_,_,_,_,_,_,j]
def kJ(C:List Int)(k:Nat)(z:bP)(H:List ah):Prop:=bX (ag (aH C) (k+2) ic [ax (.mk z H)]) (.J (vo z (bi H)))
theorem UE(z:bP)(H:List ah)(A:z.bF H.length=L)(c:(bi H).length<=3000000):kJ sc k z H:=by
 cases z with
 |call _ _=>show Uv #[] c
 |new _ _=>show Uw #[] c
 |hg m=>
  obtain _|⟨E,q⟩:=H
  .show Ut #[]
  .show kf (P:=λq=>kJ sc k (.hg m) (E::q)) q (j2.mp A|>λz=>D1.mpr (y'.mp (el z))) (Us E #[])
 |seq _=>
  obtain _|⟨E,q⟩:=H
  .cases A
  .show Ux E #[] (hH c)
 |iS=>show IM #[] c
 |bV=>show IM #[] c
 |ix=>show il (P:=kJ sc k _) H A λE=>Uu E #[]
 |dJ _=>show il (P:=kJ sc k _) H A λE=>IK E #[]
 |c8=>show kP (P:=kJ sc k _) H A λE y=>by cases E;show IK y #[]
 |bO _=>show r1 (P:=kJ sc k _) H A λE y x=>Ur E y x #[]
 |bin _=>show kP (P:=kJ sc k _) H A λE y=>IL E y #[]
 |lift _ _=>show kP (P:=kJ sc k _) H A λE y=>IL E y #[]
 |const _ _=>show kf (P:=kJ sc k _) H A (uN #[])
 |aj _ _=>show kf (P:=kJ sc k _) H A (uN #[])
 |this _=>show kf (P:=kJ sc k _) H A (uN #[])
 |slot _ _=>show kf (P:=kJ sc k _) H A (uN #[])
 |_=>show il (P:=kJ sc k _) H A λE=>g4 E #[]
def IQ(A:h.bF aa.length=L)(c:aa.length<=2000000):bX (ag (aH sc) (k+2) ic [ax (.mk h aa)]) (.J (vo h (bi aa))):=UE h aa A (ao (ds (iV aa)) (ao c ()))
theorem Ky(g:Int)(q:List V):ag C (k+1) ey [.J (↑g::q)]=(bh C .Eq ↑g ↑30).G λ
 |true=>M.N (.bool L)
 |false=>(ag C k ic [.J (↑g::q)]).G (hZ (a5 C k ey [1] 47) [("e",.J (↑g::q))] λa=>M.N (.bool ak)):=by
 ac_rfl
theorem Yv(Q a B:V)(c:ap->M V):a5 C k ey [1] 47 B [("e",Q),("kid",a)] c=(ag C k ey [B]).G λy=>(dp C y).G λ
 |true=>M.N (.bool L)
 |false=>c [("e",Q),("kid",B)]:= #[]
def un(z:bP)(H:List ah):ct (.mk z H)=(gd z||dQ H):=j
def bP.code:bP->Int
 |.const _ _=>1|.aj _ _=>2|.this _=>3|.slot _ _=>91|.cb _=>30|.call _ _=>8|.bin _=>14|.len=>7|.dB=>4|.c8=>6|.bO _=>17|.seq _=>31
 |.ew _ _ _=>19|.dJ _=>22|.ref=>33|.new _ _=>9|.k4=>10|.iS=>11|.is _=>20|.as=>21|.hg _=>25|.bV=>26|.lift _ _=>27|.ix=>28
theorem Gh(z:bP):(z.code==30)=gd z:=by cases z<;>rfl
def yj:bP->V
 |.const _ v=>v
 |.bin A=>.str A
 |.lift _ A=>.str A
 |.ix=>.str "-"
 |.call _ n=>pN 16 n
 |.hg n=>pN 16 n
 |.new k n=>pN k n
 |.dB=>.J [↑16,↑1]
 |.dJ i=>.J [↑2,↑7,↑i]
 |_=>.none
inductive jx(h:bP):List V->List ah->Prop
 |nil:jx h [] []
 |i (n:Int) (r:List V) (aa:List ah) (s:jx h r aa):jx h (↑n::r) aa
 |n (r:List V) (aa:List ah) (s:jx h r aa):jx h (.none::r) aa
 |p (r:List V) (aa:List ah) (s:jx h r aa):jx h (yj h::r) aa
 |k (e:ah) (r:List V) (aa:List ah) (s:jx h r aa):jx h (ax e::r) (e::aa)
 |t (r:List V) (aa:List ah) (s:jx h r []):jx h (.J (bi aa)::r) aa
 |s (e:ah) (aa:List ah):jx h [.J (bi aa),ax e] (e::aa)
inductive iP(h:bP)(aa:List ah):Prop
 |mk (r:List V) (e:iq h (bi aa)= ↑h.code:: ↑h.kind::r) (s:jx h r aa):iP h aa
theorem w3(z:bP)(H:List ah)(A:z.bF H.length=L):iP z H:=by
 cases z with
 |const _ _=>show kf (P:=iP _) H A #[_,j,.p _ _ .nil]
 |aj _ _=>show kf (P:=iP _) H A #[_,j,.i _ _ _ .nil]
 |this _=>show kf (P:=iP _) H A #[_,j,.nil]
 |slot _ _=>show kf (P:=iP _) H A #[_,j,.i _ _ _ .nil]
 |call _ _=>show#[_,j,.n _ _ (.p _ _ (.t _ _ (.i _ _ _ .nil)))]
 |bin _=>show kP (P:=iP _) H A λE y=> #[_,j,.p _ _ (.k _ _ _ (.k _ _ _ (.i _ _ _ .nil)))]
 |dB=>show il (P:=iP _) H A λE=> #[_,j,.k _ _ _ (.p _ _ .nil)]
 |c8=>show kP (P:=iP _) H A λE y=> #[_,j,.k _ _ _ (.k _ _ _ .nil)]
 |bO _=>show r1 (P:=iP _) H A λE y x=> #[_,j,.k _ _ _ (.k _ _ _ (.k _ _ _ .nil))]
 |seq _=>
  obtain _|⟨E,q⟩:=H
  .cases A
  .show#[_,j,.s _ _]
 |ew _ _ _=>show il (P:=iP _) H A λE=> #[_,j,.k _ _ _ (.i _ _ _ (.i _ _ _ .nil))]
 |dJ _=>show il (P:=iP _) H A λE=> #[_,j,.p _ _ (.k _ _ _ .nil)]
 |new _ _=>show#[_,j,.p _ _ (.t _ _ .nil)]
 |iS=>show#[_,j,.t _ _ .nil]
 |is _=>show il (P:=iP _) H A λE=> #[_,j,.k _ _ _ (.i _ _ _ (.i _ _ _ .nil))]
 |hg m=>
  obtain _|⟨E,q⟩:=H
  .show#[_,j,.n _ _ (.p _ _ (.i _ _ _ .nil))]
  .show kf (P:=λq=>iP (.hg m) (E::q)) q (j2.mp A|>λz=>D1.mpr (y'.mp (el z))) #[_,j,.k _ _ _ (.p _ _ (.i _ _ _ .nil))]
 |bV=>show#[_,j,.t _ _ .nil]
 |lift _ _=>show kP (P:=iP _) H A λE y=> #[_,j,.p _ _ (.k _ _ _ (.k _ _ _ (.i _ _ _ (.i _ _ _ .nil))))]
 |ix=>show il (P:=iP _) H A λE=> #[_,j,.p _ _ (.k _ _ _ (.i _ _ _ .nil))]
 |_=>show il (P:=iP _) H A λE=> #[_,j,.k _ _ _ .nil]
def n9(A:h.bF aa.length=L):∃q,iq h (bi aa)= ↑h.code:: ↑h.kind::q:=by obtain⟨q,Q,_⟩:=w3 h aa A;show#[q,Q]
theorem Yu(Q B:V)(c:ap->M V):a5 C k ey [1] 47 B [("e",Q)] c=(ag C k ey [B]).G λy=>(dp C y).G λ
 |true=>M.N (.bool L)
 |false=>c [("e",Q),("kid",B)]:= #[]
inductive mU(C:List O)(k:Nat):List V->Bool->Prop
 |nil:mU C k [] ak
 |cons (v:V) (b:Bool) (vs:List V) (c:Bool) (h:bX (ag C k ey [v]) (.bool b)) (g:mU C k vs c):mU C k (v::vs) (b||c)
def Nx(C:List O)(k:Nat)(Q:V)(a:List V)(b:Bool):Prop:=∀Y:ap,(Y=([("e",Q)]:ap)\/∃u,Y=([("e",Q),("kid",u)]:ap))->bX (cf (a5 C k ey [1] 47) a Y λc=>M.N (.bool ak)) (.bool b)
theorem Tj(Q:V)(z:mU C k vs b):Nx C k Q vs b:=by
 induction z with
 |nil=>show λe e=>bX.N _
 |cons B b vs g z s w=>
  intro Y c;let p:bX ((ag C k ey [B]).G λb=>(dp C b).G λ
   |true=>M.N (.bool L)
   |false=>cf (a5 C k ey [1] 47) vs [("e",Q),("kid",B)] λe=>M.N (.bool ak)) (.bool (b||g)):=by
   show z.G ?_;obtain _|_:=b
   .show w _ (.inr #[_,j])
   show bX.N _
  obtain rfl|⟨d,rfl⟩:=c
  .show wL (a:=cf (a5 C k ey [1] 47) (B::vs) _ _) (ot:=λm=>bX m _) (Yu ..) p
  .show wL (a:=cf (a5 C k ey [1] 47) (B::vs) _ _) (ot:=λm=>bX m _) (Yv ..) p
theorem w4(H:List ah):bi H=H.map ax:=by
 induction H with
 |nil=>rfl
 |cons Q q w=>show aN (ax Q:: ·) w
def EY(C:List Int)(k:Nat)(Q:ah):Prop:=bX (ag (aH C) k ey [ax Q]) (.bool (ct Q))
theorem Bt(H:List ah)(w:∀Q∈H,EY sc k Q):mU (aH sc) k (bi H) (dQ H):=by
 induction H with
 |nil=>show .nil
 |cons Q q z=>show .cons _ _ _ _ (w Q (.head _)) (z λu T=>w u (.tail _ T))
theorem mU.snoc{g:Bool}(z:mU C k vs g)(s:bX (ag C k ey [v]) (.bool b)):mU C k (vs++[v]) (b||g):=by
 induction z with
 |nil=>show .cons _ _ _ _ s .nil
 |cons v B vs p z _ w=>show Bool.or_left_comm ..▸mU.cons v B _ _ z w
theorem XJ(f:∀p,h≠.seq p)(o:∀i,h≠.dJ i):vo h vs=vs:=by
 cases h with
 |seq p=>cases(f p) j
 |dJ i=>cases(o i) j
 |_=>rfl
def Yw(i:Int):bX (ag (aH sc) (k+3) ey [.J [↑2,↑7,↑i]]) (.bool ak):=by rw[Ky,iT];show(uN #[]:bX _ _).G ?_;show bX.N _
def pQ:ah->Bool
 |.mk _ aa=>b' aa.length 1000&&sQ aa
where sQ:List ah->Bool
 |[]=>L
 |e::r=>pQ e&&sQ r
def aaE(u:s2 (.mk h aa)=L):h.bF aa.length=L:=by show(dj.mp (dj.mp (show(yJ h aa&&p0 aa)=L from u)).1).1
theorem Bp:qG aa<=k->3<=k/\∀Q∈aa,ec Q<=k:=by
 induction aa with
 |nil=>show λz=> #[z,λa z=>nomatch z]
 |cons Q q w=>intro z;let y:=w (ao (f1 ..) z);show#[y.1,bg.mpr #[ao (f7 ..) z,y.2]]
theorem TA(z:bP)(H:List ah)(w:∀Q∈H,EY sc (k+3) Q):mU (aH sc) (k+3) (vo z (bi H)) (dQ H):=by
 cases z with
 |seq _=>
  obtain _|⟨B,b⟩:=H
  .show .nil
  .show(Bt b λu T=>w u (.tail _ T)).snoc (w B (.head _))
 |dJ i=>show .cons _ ak _ _ (Yw i) (Bt H w)
 |_=>show Bt H w
theorem Ti(A:h.bF aa.length=L)(c:aa.length<=1000)(O:3<=k)(w:∀Q∈aa,bX (ag (aH sc) k ey [ax Q]) (.bool (ct Q))):bX (ag (aH sc) (k+1) ey [ax (.mk h aa)]) (.bool (ct (.mk h aa))):=by
 obtain⟨k,rfl⟩:∃Y,k=Y+3:= #[k-3,(ie O).symm];obtain⟨q,f,_⟩:=w3 h aa A;let a:bX (ag (aH sc) (k+3) ic [.J (iq h (bi aa))]) _:=IQ (sc:=sc) (k:=k+1) A (ao c ());split bX (ag (aH sc) (k+4) ey [.J (iq h (bi aa))]) (.bool (gd h||dQ aa));rw[f] at a|-;rw[Ky,iT,Gh];obtain _|_:=gd h
 .show a.G (Tj _ (TA h aa w) _ (.inl j))
 show bX.N _
mutual
theorem H5:∀(e:ah),s2 e=L->pQ e=L->∀k,ec e<=k->bX (ag (aH sc) k ey [ax e]) (.bool (ct e))
 |.mk h aa,cz,c,k,O=>by let O:qG aa+1<=k:=O;obtain⟨k,rfl⟩:∃av,k=av+1:=sb (ao () (Bp (hH O)).1);let c:=dj.mp (show(b' aa.length 1000&&pQ.sQ aa)=L from c);let M:=Bp (k:=k) (aa:=aa) ();let N:=dj.mp (show(yJ h aa&&p0 aa)=L from cz);show Ti (aaE cz) (cc c.1) M.1 (H7 aa N.2 c.2 k M.2)
theorem H7:∀(aa:List ah),p0 aa=L->pQ.sQ aa=L->∀k,(∀e∈aa,ec e<=k)->∀e∈aa,bX (ag (aH sc) k ey [ax e]) (.bool (ct e))
 |[],_,_,_,_=>λb h=>nomatch h
 |e::r,cz,c,k,O=>bg.mpr #[H5 e (dj.mp cz).1 (dj.mp c).1 k (O e (.head _)),H7 r (dj.mp cz).2 (dj.mp c).2 k λy a=>O y (.tail _ a)]
end
variable{a:Int}{a4:Nat}{dI lM:aG}{ahA oR:List V}{K:V->M V}
section
structure cX where
 o0:O
 lG:O
 WO:O
 WP:O
 WQ:O
 WR:O
 WN:O
def Ki:List V:=[.J [↑1,↑0],.J [↑1,↑1],.J [↑1,↑2],.J [↑1,↑3],.J [↑1,↑4],.J [↑1,↑5],.J [↑1,↑6],.J [↑1,↑7],.J [↑1,↑8],.J [↑1,↑9],.J [↑1,↑10],.J [↑1,↑11],.J [↑1,↑12],.J [↑1,↑13],.J [↑1,↑14],.J [↑1,↑15],.J [↑2,↑72,.J []],.J [↑2,↑74,.J []],.J [↑3,↑66,.J []],.J [↑4,↑7],.J [↑3,↑8,.J [↑7]],.J [↑5,↑7]]
def cB(x:cX)(a i g:Int):List O:=[x.o0,x.lG,.aX [("at",↑a),("ids",↑i),("kt",⇑4),("c",↑16),("f",↑17),("s",↑18),("a",↑19),("q",↑20),("r",↑21)],
 .aX [("rows",⇑5),("index",⇑6),("depths",⇑7),("weights",⇑8),("opens",⇑9)],.inst 0 3,.list Ki,x.WO,x.WP,x.WQ,x.WR,.aX [("kt",⇑4),("count",↑g)],.inst 1 10,x.WN]
def dT(x:cX)(a i g:Int)(p:aG):Prop:=∃H,p=cB x a i g++H
variable{x:cX}{m:M V}
theorem dT.app(z:dT x a i c D)(Y:List O):dT x a i c (D++Y):=by obtain⟨H,rfl⟩:=z;show#[H++Y,ez ..]
def r5:(cB x a i c).length=13:=j
theorem dT.set(z:dT x a i c D)(v:13<=n)(d:O):dT x a i c (D.set n d):=by obtain⟨H,rfl⟩:=z;show#[H.set (n-13) d,by rw[List.set_append_right _ _ (by rw[r5];show v),r5]]
def qS{T:List aq}{d:aq}(z:T[n]?=I d):n<T.length:=(c5.mp z).1
def Fr(m:Nat)(p y:aG):Prop:=p.length<=y.length/\∀n,13<=n->n<p.length->n≠m->y[n]?=p[n]?
theorem Fr.trans(z:Fr a4 D dI)(s:Fr a4 dI lM):Fr a4 D lM:= #[ao z.1 s.1,λU E y g=>(s.2 U E (fF y z.1) g).trans (z.2 U E y g)]
theorem Fr.app(Y:List O):Fr a4 D (D++Y):= #[by rw[cu];show bv _ _,λU a z a=>eP z]
theorem Fr.set(d:O):Fr a4 D (D.set a4 d):= #[by rw[fV];show bq _,λU a a z=>ru (i8 z)]
theorem Fr.get(z:Fr a4 D dI){d:O}(v:13<=n)(J:n≠a4)(a:D[n]?=I d):dI[n]?=I d:=by rw[z.2 n v (c5.mp a).1 J,a]
inductive Fs(x:cX)(a i:Int)(a4:Nat)(aF:Int)(c4:List V)(v:V)(m:M V)(D:aG):Prop
 |mk (y:aG) (e:m D=.ok v y) (w:dT x a i aF y) (b6:y[a4]?=I (.list c4)) (F:Fr a4 D y):Fs x a i a4 aF c4 v m D
def bN(x:cX)(a i:Int)(b:Nat)(g p:Int)(u:List V)(B:V)(m:M V):Prop:=∀vs D,dT x a i g D->D[b]?=I (.list vs)->vs.length+u.length<=4000000->Fs x a i b p (vs++u) B m D
theorem bX.s4(z:bX m v):bN x a i a4 c c [] v m:=λO p w g b=>by obtain⟨Y,Q⟩:=z p;show#[_,Q,w.app Y,by rw[dS,eP (c5.mp g).1,g],Fr.app Y]
theorem bN.N(B:V):bN x a i a4 c c [] B (M.N B):=(bX.N B).s4
theorem bN.G{f:V->M V}(z:bN x a i a4 c bW c4 v m)(s:bN x a i a4 bW eS oR u (f v)):bN x a i a4 c eS (c4++oR) u (m.G f):=λO p w g T=>by rw[cu] at T;obtain⟨e,b,j,q,y⟩:=z O p w g ();obtain⟨N,d,J,E,r⟩:=s _ e j q (by rw[cu];omega);show#[N,by rw[a8 b,d],J,by rw[E,ez],y.trans r]
theorem bN.end(z:bN x a i a4 c bW c4 v m):bN x a i a4 c bW c4 v (m.G M.N):=by rwa [im]
def oC(C:List O)(k:Nat)(o:V)(m:M V)(e:V->V)(h:M V):M V:=(e' C o c9).G λl=>m.G λv=>(k1 #[C,[],ag C k,λa=>ak,ak,#[.function,[],ak,ak,[]]] o l [e v]).G λa=>h
theorem bN.push{S:V->V}{h:M V}(t:13<=a4)(b:bN x a i a4 c bW c4 v m)(s:bN x a i a4 bW eS oR u h):bN x a i a4 c eS (c4++S v::oR) u (oC C k ⇑a4 m S h):=λO p w g T=>by
 rw[cu,oW] at T;obtain⟨z,f,j,q,y⟩:=b O p w g ();obtain⟨e,d,J,E,r⟩:=s (O++c4++[S v]) (z.set a4 (.list (O++c4++[S v]))) (j.set t _) (by
  rw[iF (c5.mp q).1]) (by rw[cu,cu,List.length_singleton];omega)
 show#[e,?_,J,by rw[E];simp,y.trans ((Fr.set _).trans r)];unfold oC;rw[a8 (sV g),a8 f];split (((l2 ⇑a4 (S v)).G λl=>M.N V.none).G λl=>h) z=_;rw[hv,r0 q (by rw[cu];omega)];show d
theorem bN.CO{D:V}{h:M V}(t:13<=a4)(s:bN x a i a4 c eS oR u h):bN x a i a4 c eS (D::oR) u (et C k ⇑a4 c9 [D] λb=>h):=bN.push (S:=λb=>D) (m:=M.N .none) t (bN.N _) s
def vB(C:List O)(k:Nat)(o:V)(h:V->M V):M V:=(e' C o "slot").G λl=>(k1 #[C,[],ag C k,λa=>ak,ak,#[.function,[],ak,ak,[]]] o l []).G h
def abm(H:List O)(h:V->M V):vB C (k+1) ⇑11 h (cB x a i c++H)=h ↑(c+1) (cB x a i (c+1)++H):= #[]
theorem bN.slot(t:13<=a4)(s:bN x a i a4 (c+1) eS c4 u (K ↑(c+1))):bN x a i a4 c eS c4 u (vB C (k+1) ⇑11 K):=λO p w g T=>by obtain⟨H,rfl⟩:=w;let Q (U:Nat) (z:13<=U):(cB x a i (c+1)++H)[U]?=(cB x a i c++H)[U]? :=(kE (l₁:=cB x a i (c+1)) z).trans (kE (l₁:=cB x a i c) z).symm;obtain⟨N,d,J,E,r⟩:=s O (cB x a i (c+1)++H) #[H,j] ((Q _ t).trans g) T;show#[N,(abm H K).trans d,J,E,Fr.trans #[ds (by rw[cu,cu];rfl),λU z b b=>Q U z] r]
def uJ(C:List O)(k:Nat)(f n:V)(h:Bool->M V):M V:=(mY C f "kt").G λa=>(ag C k "is_value" [a,n]).G λb=>(dp C b).G h
def Ua(H:List O)(h:Bool->M V):uJ C (k+2) ⇑11 ↑16 h (cB x a i c++H)=h ak (cB x a i c++H):= #[]
def Ub(H:List O)(h:Bool->M V):uJ C (k+2) ⇑11 ↑18 h (cB x a i c++H)=h L (cB x a i c++H):= #[]
theorem bN.xD{h:Bool->M V}{n:Int}(z:n=16/\b=ak\/n=18/\b=L)(s:bN x a i a4 c eS c4 u (h b)):bN x a i a4 c eS c4 u (uJ C (k+2) ⇑11 ↑n h):=λO p w g T=>by
 obtain⟨H,rfl⟩:=w;obtain⟨N,d,J,E,r⟩:=s O _ #[H,j] g T;show#[N,p_ ?_ d,J,E,r];obtain⟨rfl,rfl⟩|⟨rfl,rfl⟩:=z
 .show Ua H h
 .show Ub H h
def restOf:List Nat->List dF->List dF
 |[i],d=>d.drop (i+1)
 |i::r,d=>match d[i]? with
  |some s=>match rg s with
   |.Ay a b=>match r with
    |0::r=>restOf r a
    |_::r=>restOf r b
    |[]=>[]
   |.u3 _ b=>restOf r b
   |.ty b=>restOf r b
   |_=>[]
  |none=>[]
 |[],_=>[]
def az(C:List O)(k:Nat)(f:Str)(a:List Nat)(U:Nat)(Y:ap):M V:=match aT f eG with
 |some r=>gZ (n6 C k f) U [] (restOf a r.d.body) Y (λb=>M.N .none) M.N
 |none=>M.ab
def Bu(C:List O)(k:Nat)(Q a x:V):M V:=vB C k ⇑11 λn=>oC C k x (ag C k dL [⇑11,Q,x]) (λv=>.J [↑94,n,v]) (M.N (.J [↑91,a,n]))
theorem yt(g n:Int)(q:List V)(x:V):ag C (k+1) mF [⇑11,.J (↑g:: ↑n::q),x]=(bh C .Eq ↑g ↑1).G λl=>match l with
 |true=>M.N (.J (↑g:: ↑n::q))
 |false=>(bh C .Eq ↑g ↑3).G λ
  |true=>uJ C k ⇑11 ↑n λy=>match !y with
   |true=>M.N (.J (↑g:: ↑n::q))
   |false=>Bu C k (.J (↑g:: ↑n::q)) ↑n x
  |false=>Bu C k (.J (↑g:: ↑n::q)) ↑n x:=by
 ac_rfl
def Kz(Q x:V):ag C (k+1) oV [⇑11,Q,x]=(ag C k "fix_target" [⇑11,Q,x]).G λv=>az C k oV [0] 49 [("sp",⇑11),("place",v),("pre",x)]:=by ac_rfl
def Ys(q:List V)(x:V):ag C (k+1) "fix_target" [⇑11,.J (↑2::q),x]=M.N (.J (↑2::q)):= #[]
theorem Yr(r g n m x:V)(q:List V):ag C (k+1) "fix_target" [⇑11,.J [↑4,r,.J (g::n::q),m],x]=uJ C k ⇑11 n λ
 |true=>(ag C k oV [⇑11,.J (g::n::q),x]).G λd=>M.N (.J [↑4,r,d,m])
 |false=>(ag C k mF [⇑11,.J (g::n::q),x]).G λd=>M.N (.J [↑4,r,d,m]):=by
 ac_rfl
def Yq(r E Y x:V):ag C (k+1) "fix_target" [⇑11,.J [↑6,r,E,Y],x]=(ag C k mF [⇑11,E,x]).G λE=>(ag C k mF [⇑11,Y,x]).G λY=>M.N (.J [↑6,r,E,Y]):=by ac_rfl
def YW(Q r v Y x:V):ag C (k+1) mG [⇑11,Q,.J [↑33,r,v],Y,x]=(ag C k oV [⇑11,v,x]).G λv=>M.N (.J [↑33,r,v]):=by ac_rfl
def BG(z:bP):Bool:=cA z.ctorIdx 5
theorem YV(z:bP)(a1 b:V)(q c:List V)(Y:Int)(x:V)(U:BG z=L->b=.none)(g:Int):ag C (k+1) mG [⇑11,.J (↑z.code::a1::b::q),.J (↑g::c),↑Y,x]=(bh C .Eq ↑g ↑33).G λl=>match l with
 |true=>(aJ C (.J (↑g::c)) ↑1).G λr=>(aJ C (.J (↑g::c)) ↑2).G λv=>(ag C k oV [⇑11,v,x]).G λv=>M.N (.J [↑33,r,v])
 |false=>(bh C .Eq ↑Y ↑0).G λ
  |true=>(ag C k mF [⇑11,.J (↑g::c),x]).G M.N
  |false=>(ag C k mF [⇑11,.J (↑g::c),x]).G M.N:=by
 show C2 ?_;cases z with
 |call _ _=>rw[U j];rfl'
 |_=>rfl'
def Yn(n r x:V):ag C (k+1) "split_await" [⇑11,.J [↑30,n,r],x]=(ag C k dL [⇑11,r,x]).G λa=>vB C k ⇑11 λU=>et C k x c9 [.J [↑93,.J [↑95,U,a]]] λb=>M.N (.J [↑91,n,U]):=by ac_rfl
def AD(C:List O)(k:Nat)(d a b x c:V):M V:=vB C k ⇑11 λn=>(M.new (.list [])).G λy=>oC C k ⇑y (ag C k dL [⇑11,a,⇑y]) (λv=>.J [↑94,n,v]) ((M.new (.list [])).G λo=>oC C k ⇑o (ag C k dL [⇑11,b,⇑o]) (λv=>.J [↑94,n,v])
 ((e' C x c9).G λl=>(ag C k "row_of" [⇑y]).G λp=>(ag C k "row_of" [⇑o]).G λe=>(ag C k iE [.J [↑4,c,p,e]]).G λs=>(k1 #[C,[],ag C k,λf=>ak,ak,#[.function,[],ak,ak,[]]] x l [s]).G λf=>M.N (.J [↑91,d,n])))
theorem Kx(n r E y x:V):ag C (k+1) "split_choice" [⇑11,.J [↑17,n,r,E,y],x]=(ag C k dL [⇑11,r,x]).G λc=>(ag C k ey [E]).G λA=>(dp C A).G λl=>match !l with
 |true=>(ag C k ey [y]).G λA=>(dp C A).G λl=>match !l with
  |true=>M.N (.J [↑17,n,c,E,y])
  |false=>AD C k n E y x c
 |false=>AD C k n E y x c:=by
 ac_rfl
def Y3(e:Nat):ag C (k+1) "row_of" [⇑e]=(eM ⇑e).G λT=>(ag C k iE [.J [↑3,T,↑0]]).G M.N:=by ac_rfl
def YD(D:V):ag C (k+1) iE [D]=(ag C k "stmt_kids" [D]).G (hZ (a5 C k iE [0] 48) [("s",D)] (az C k iE [0] 49)):=by ac_rfl
def YG(D a:V):az C k iE [0] 49 [("s",D),("kid",a)]=M.N D:= #[]
def YH(D:V):az C k iE [0] 49 [("s",D)]=M.N D:= #[]
theorem YE(D:V)(g:Int)(q:List V)(c:ap->M V):a5 C k iE [0] 48 (.J (↑g::q)) [("s",D)] c=(bh C .Eq ↑g ↑93).G λ
 |true=>M.N (.J [↑93,D])
 |false=>c [("s",D),("kid",.J (↑g::q))]:= #[]
theorem YF(D a:V)(g:Int)(q:List V)(c:ap->M V):a5 C k iE [0] 48 (.J (↑g::q)) [("s",D),("kid",a)] c=(bh C .Eq ↑g ↑93).G λ
 |true=>M.N (.J [↑93,D])
 |false=>c [("s",D),("kid",.J (↑g::q))]:= #[]
def Y7(T:List V):ag (aH sc) (k+1) "stmt_kids" [.J [↑3,.J T,↑0]]=(ag (aH sc) k iD [.J [↑3,.J T,↑0],.J [.J [↑1,↑3]]]).G M.N:=by ac_rfl
def Y8(r E y:V):ag (aH sc) (k+1) "stmt_kids" [.J [↑4,r,E,y]]=(ag (aH sc) k iD [.J [↑4,r,E,y],.J [.J [↑2,↑1],.J [↑3,↑2]]]).G M.N:=by ac_rfl
def Y0(e:V)(E q:List V):ag C (k+1) iD [.J (e::.J E::q),.J [.J [↑1,↑3]]]=(M.new (.list [])).G λd=>et C k ⇑d "extend" [.J E] λa=>(eM ⇑d).G M.N:=by ac_rfl
def Yx(e a1:V)(E y:List V):ag C (k+1) iD [.J [e,a1,.J E,.J y],.J [.J [↑2,↑1],.J [↑3,↑2]]]=(M.new (.list [])).G λd=>et C k ⇑d c9 [.J E] λa=>et C k ⇑d c9 [.J y] λa=>(eM ⇑d).G M.N:=by ac_rfl
def YU(n v:V)(d:List V):ag C (k+1) lb [.J [↑26,n,.J (v::d)]]=(gy C (.J (v::d)) (I ↑1) au).G (hZ (a5 C k lb [1] 47) [("e",.J [↑26,n,.J (v::d)]),("whole",v)] (az C k lb [1] 48)):=by ac_rfl
def YR(n d A B:V)(c:ap->M V):a5 C k lb [1] 47 B [("e",.J [↑26,n,d]),("whole",A)] c=c [("e",.J [↑26,n,d]),("whole",.J [↑26,n,.J [A,B]]),("part",B)]:= #[]
def YS(n d A a B:V)(c:ap->M V):a5 C k lb [1] 47 B [("e",.J [↑26,n,d]),("whole",A),("part",a)] c=c [("e",.J [↑26,n,d]),("whole",.J [↑26,n,.J [A,B]]),("part",B)]:= #[]
def YT(Q A a:V):az C k lb [1] 48 [("e",Q),("whole",A),("part",a)]=M.N A:= #[]
theorem Y9(z:bP)(q:List V)(x:V)(t:iZ z=L\/z=.ref)(f:∀k,z≠.cb k)(o:∀i,z≠.dJ i):ag C (k+1) dL [⇑11,.J (↑z.code::q),x]=(ag C k ey [.J (↑z.code::q)]).G λy=>(dp C y).G λl=>match !l with
 |true=>M.N (.J (↑z.code::q))
 |false=>(ag C k e2 [⇑11,.J (↑z.code::q),x]).G M.N:=by
 show C2 ?_;cases z with
 |cb k=>cases(f k) j
 |dJ i=>cases(o i) j
 |bO k=>obtain z|z:=t<;>cases z
 |bV=>obtain z|z:=t<;>cases z
 |seq k=>obtain z|z:=t<;>cases z
 |_=>rfl'
theorem Y_(n r x:V):ag C (k+1) dL [⇑11,.J [↑30,n,r],x]=(ag C k ey [.J [↑30,n,r]]).G λy=>(dp C y).G λl=>match !l with
 |true=>M.N (.J [↑30,n,r])
 |false=>(ag C k "split_await" [⇑11,.J [↑30,n,r],x]).G M.N:=by
 ac_rfl
theorem Y'(q:List V)(x:V):ag C (k+1) dL [⇑11,.J (↑17::q),x]=(ag C k ey [.J (↑17::q)]).G λy=>(dp C y).G λl=>match !l with
 |true=>M.N (.J (↑17::q))
 |false=>(ag C k "split_choice" [⇑11,.J (↑17::q),x]).G M.N:=by
 ac_rfl
theorem Zb(n r E x:V):ag C (k+1) dL [⇑11,.J [↑22,n,r,E],x]=(ag C k ey [.J [↑22,n,r,E]]).G λy=>(dp C y).G λl=>match !l with
 |true=>M.N (.J [↑22,n,r,E])
 |false=>(ag C k "fix_target" [⇑11,r,x]).G λr=>(ag C k dL [⇑11,E,x]).G λE=>M.N (.J [↑22,n,r,E]):=by
 ac_rfl
theorem Zc(n:V)(d:List V)(x:V):ag C (k+1) dL [⇑11,.J [↑26,n,.J d],x]=(ag C k ey [.J [↑26,n,.J d]]).G λy=>(dp C y).G λl=>match !l with
 |true=>M.N (.J [↑26,n,.J d])
 |false=>(e_ (.J d)).G λU=>(bh C .Gt U ↑2).G λ
  |true=>(ag C k lb [.J [↑26,n,.J d]]).G λA=>(ag C k e2 [⇑11,A,x]).G M.N
  |false=>(ag C k e2 [⇑11,.J [↑26,n,.J d],x]).G M.N:=by
 ac_rfl
theorem Za(n B:V)(b:List V)(x:V):ag C (k+1) dL [⇑11,.J [↑31,n,.J b,B],x]=(ag C k ey [.J [↑31,n,.J b,B]]).G λy=>(dp C y).G λl=>match !l with
 |true=>M.N (.J [↑31,n,.J b,B])
 |false=>cf (a5 C k dL [3,0,0] 44) b [("sp",⇑11),("e",.J [↑31,n,.J b,B]),("pre",x),("code",↑31)] (az C k dL [3,0,0] 45):=by
 ac_rfl
def Y5(Q x B:V)(c:ap->M V):a5 C k dL [3,0,0] 44 B [("sp",⇑11),("e",Q),("pre",x),("code",↑31)] c=oC C k x (ag C k dL [⇑11,B,x]) (λB=>.J [↑1,B]) (c (tg Q x ↑31 B)):= #[]
def Y6(Q x a B:V)(c:ap->M V):a5 C k dL [3,0,0] 44 B (tg Q x ↑31 a) c=oC C k x (ag C k dL [⇑11,B,x]) (λB=>.J [↑1,B]) (c (tg Q x ↑31 B)):= #[]
def YX(Q x:V):ag C (k+1) e2 [⇑11,Q,x]=(ag C k ic [Q]).G λH=>(e_ H).G λU=>(eW U).G λT=>cf (a5 C k e2 [2] 46) T [("sp",⇑11),("e",Q),("pre",x),("kids",H),("last",↑0)] (az C k e2 [2] 47):=by ac_rfl
theorem YA(Q x T H Y:V)(c:ap->M V):a5 C k e2 [2] 46 Y [("sp",⇑11),("e",Q),("pre",x),("kids",H),("last",T)] c=(aJ C H Y).G λu=>(ag C k ey [u]).G λy=>(dp C y).G λ
 |true=>c (ro Q x H Y Y)
 |false=>c (ro Q x H T Y):= #[]
theorem YB(Q x T H Y a:V)(c:ap->M V):a5 C k e2 [2] 46 Y (ro Q x H T a) c=(aJ C H Y).G λu=>(ag C k ey [u]).G λy=>(dp C y).G λ
 |true=>c (ro Q x H Y Y)
 |false=>c (ro Q x H T Y):= #[]
def YY(Q x T H a:V):az C k e2 [2] 47 (ro Q x H T a)=(M.new (.list [])).G λd=>(e_ H).G λU=>(eW U).G λj=>cf (a5 C k e2 [4] 44) j [("sp",⇑11),("e",Q),("pre",x),("kids",H),("last",T),("place",a),("out",⇑d)] (az C k e2 [4] 45):= #[]
def sW(C:List O)(k o:Nat)(cP E:V)(m:V->M V)(h:M V):M V:=(e' C ⇑o c9).G λl=>(aJ C cP E).G λu=>(m u).G λv=>(k1 #[C,[],ag C k,λa=>ak,ak,#[.function,[],ak,ak,[]]] ⇑o l [v]).G λa=>h
abbrev kX(U x cP:V)(l:Int)(a:V)(o:Nat):ap:=[("sp",⇑11),("e",U),("pre",x),("kids",cP),("last",↑l),("place",a),("out",⇑o)]
theorem YJ(Q x H Y a:V)(T:Int)(d:Nat)(c:ap->M V):a5 C k e2 [4] 44 Y (kX Q x H T a d) c=(bh C .Lt Y ↑T).G λl=>match l with
 |true=>sW C k d H Y (λu=>ag C k mG [⇑11,Q,u,Y,x]) (c (kX Q x H T Y d))
 |false=>(bh C .Eq Y ↑T).G λ
  |true=>sW C k d H Y (λu=>ag C k dL [⇑11,u,x]) (c (kX Q x H T Y d))
  |false=>sW C k d H Y M.N (c (kX Q x H T Y d)):= #[]
def YZ(Q x T H a:V)(d:Nat):az C k e2 [4] 45 [("sp",⇑11),("e",Q),("pre",x),("kids",H),("last",T),("place",a),("out",⇑d)]=(ag C k oS [Q,⇑d]).G M.N:= #[]
end
variable{m av:Nat}{lo dh:Option V}{as:List V}
def vM(C:List O)(o:Nat)(a:Int)(q:Nat):M V:=(aJ C ⇑o ↑0).G λv=>(dd C ⇑q ↑a v).G λb=>(eM ⇑q).G M.N
def y3(C:List O)(o:Nat)(a l:Int)(q:Nat):M V:=(aJ C ⇑o ↑0).G λv=>(dd C ⇑q ↑a v).G λb=>(aJ C ⇑o ↑1).G λv=>(dd C ⇑q ↑l v).G λb=>(eM ⇑q).G M.N
def tf(C:List O)(o:Nat)(a:Int)(as:List V)(q:Nat):M V:=((((e_ (.J as)).G λn=>bQ C .Add ↑0 n).G λv=>M.N (I v)).G λh=>gy C ⇑o (I ↑0) h).G λs=>(eM s).G λt=>(dd C ⇑q ↑a t).G λb=>(e_ (.J as)).G λ
 |.int _=>(eM ⇑q).G M.N
 |_=>M.ab
def g0(z:n<=4000000):aU n=L:=j2.mpr z
theorem jI(E:Int)(Y:Nat)(s:E=Y)(a:Y<=1000000)(z:D[n]?=I (.list vs))(x:vs[Y]?=I v):aJ C ⇑n ↑E D=.ok v D:=by
 split (match dx C D ⇑n with
  |some (.list vs)=>match↥(0<=E)&&aU E.toNat with
   |true=>M.opt vs[E.toNat]?
   |false=>M.ab
  |some (.id b)=>M.opt (d4 E b)
  |_=>M.ab:M V) D=_
 have:dx C D ⇑n=I (.list vs):=z;subst s;rw[this];have:(↥((0:Int)<=(Y:Int))&&aU (Y:Int).toNat)=L:=by rw[rK,g0 (),cW (fG Y)];rfl
 show(congrFun (g1 this) D).trans ?_;rw[rK,x];rfl
theorem gf(E:Int)(Y:Nat)(s:E=Y)(a:Y<=1000000)(x:vs[Y]?=I v):aJ C (.J vs) ↑E=M.N v:=by
 funext p;split (match↥(0<=E)&&aU E.toNat with
   |true=>M.opt vs[E.toNat]?
   |false=>M.ab:M V) p=_
 subst s;have:(↥((0:Int)<=(Y:Int))&&aU (Y:Int).toNat)=L:=by rw[rK,g0 (),cW (fG Y)];rfl
 show(congrFun (g1 this) p).trans ?_;rw[rK,x];rfl
theorem q9(E:Int)(Y:Nat)(s:E=Y)(a:Y<=1000000)(z:D[n]?=I (.list vs))(x:Y<vs.length):dd C ⇑n ↑E v D=.ok bL (D.set n (.list (vs.set Y v))):=by
 unfold dd M.get;dsimp only;subst s;rw[z];have:(↥((0:Int)<=(Y:Int))&&i7 (Y:Int).toNat vs.length&&aU (Y:Int).toNat)=L:=by rw[rK,g0 (),cW (fG Y),vR.mpr x];rfl
 show congrFun (g1 this) D
def uT(z:vs.length<=4000000):e_ (.J vs)=M.N ↑vs.length:=by funext p;split (match aU vs.length with|true=>M.N ↑vs.length|false=>M.ab:M V) p=_;rw[g0 z]
def Lr: -pq<0:=bS #[]
def abq:1000000<pq:=bS #[]
def Dg(u:0<=i)(z:i<=1000000):c7 i=L:=by show dj.mpr #[cW (v9 Lr u),cW (nM z abq)]
def gh{d:O}(z:m≠n):(D.set n d)[m]?=D[m]? :=ru (i8 z)
def a_(B:aq)(t:aq->M aC):(M.N B).G t=t B:=j
def add_int(E y:Int):bQ C .Add ↑E ↑y=M.N ↑(E+y):=j
def h6{Y:List O}{o:O}(z:D[n]?=I o):(D++Y)[n]?=I o:=(eP (c5.mp z).1).trans z
def xM(z:vs.length<=m):(vs.set n v).length<=m:=by rw[fV];show z
def wB(p:aG)(m:M V)(B:V):Prop:=∃l,m p=.ok B (p++l)
def DS{d:Nat}{a H:List V}{p:Int}(h:D[d]?=I (.list (v::H)))(s:p=av)(x:av<a.length)(c:a.length<=100):wB D ((M.new (.list a)).G (vM C d p)) (.J (a.set av v)):=by show#[[.list (a.set av v)],?_];split vM C d p D.length (D++[.list a])=_;show(a8 (jI 0 0 j () (h6 h) j)).trans ((a8 (q9 p av s (ao (mL x) (ao c ())) (dU _ _) x)).trans ?_);rw[k7];show a8 (lN (dU _ _) (xM (ao c ())))
def Mj{d:Nat}{a H:List V}{p q:Int}{i:Nat}(h:D[d]?=I (.list (u::v::H)))(s:p=av)(b:q=i)(x:av<a.length)(r:i<a.length)(c:a.length<=100):wB D ((M.new (.list a)).G (y3 C d p q)) (.J ((a.set av u).set i v)):=by show#[[.list ((a.set av u).set i v)],?_];split y3 C d p q D.length (D++[.list a])=_;show(a8 (jI 0 0 j () (h6 h) j)).trans ((a8 (q9 p av s (ao (mL x) (ao c ())) (dU _ _) x)).trans ?_);rw[k7];show(a8 (jI 1 1 j () (h6 h) j)).trans ((a8 (q9 q i b (ao (mL r) (ao c ())) (dU _ _) (by rw[fV];show r))).trans ?_);rw[k7];show a8 (lN (dU _ _) (xM (xM (ao c ()))))
def Aw(z:c7 i=L):fI (I ↑i)=I (I i):=by unfold fI;dsimp only;rw[z]
theorem P0(H:List V):hV (I 0) (I (H.length:Int)) H=I H:=by
 split (match↥((0:Int)<=0),↥((0:Int)<=(H.length:Int)) with
  |true,L=>I ((H.take (H.length:Int).toNat).drop (0:Int).toNat)
  |_,_=>au)=_
 rw[cW (fG H.length),rK,Mt];rfl
theorem abk{d:Nat}{T z:Option Int}{H:List V}(f:fI lo=I T)(o:fI dh=I z)(h:D[d]?=I (.list H))(b:aU H.length=L)(U:hV T z H=I r):gy C ⇑d lo dh D=.ok ⇑D.length (D++[.list r]):=by
 split (match fI lo,fI dh with
  |some lo,I dh=>match dx C D ⇑d with
   |some (.list O)=>match aU O.length with
    |true=>match hV lo dh O with
     |some r=>(M.new (.list r)).G λa=>M.N (V.ref a)
     |none=>M.ab
    |false=>M.ab
   |_=>M.ab
  |_,_=>M.ab:M V) D=_
 rw[f,o];have:dx C D ⇑d=I (.list H):=h;rw[this];show(congrFun (g1 b) D).trans ?_;rw[U];rfl
def abg{d:Nat}{H:List V}(h:D[d]?=I (.list H))(c:H.length<=100000):gy C ⇑d (I ↑0) (I ↑H.length) D=.ok ⇑D.length (D++[.list H]):=abk (Aw (Dg () ())) (Aw (Dg () ())) h (g0 ()) (P0 H)
def HX(p:aG)(u e:O):(p++[u]++[e])[p.length]?=I u:=h6 (dU p u)
def aaY(p:aG)(u e o:O):(p++[u]++[e]).set p.length o=p++[o]++[e]:=(List.set_append_left _ _ (by rw[cu];show zc _)).trans (aN (· ++[e]) (k7 p u o))
def DT{d:Nat}{a H:List V}{p:Int}(h:D[d]?=I (.list H))(s:p=av)(x:av<a.length)(c:a.length<=100)(A:as.length=H.length)(O:H.length<=1000):wB D ((M.new (.list a)).G (tf C d p as)) (.J (a.set av (.J H))):=by let b:H.length<=4000000:=ao O ();let e:e_ (.J as)=M.N ↑as.length:=uT (ao (ds A) b);show#[[.list (a.set av (.J H)),.list H],?_];split tf C d p as D.length (D++[.list a])=_;unfold tf;rw[e,a_,add_int,a_,a_,Int.zero_add,A];show(a8 (abg (h6 h) (ao O ()))).trans ((a8 (lN (dU _ _) b)).trans ((a8 (q9 p av s (ao (mL x) (ao c ())) (HX ..) x)).trans ?_));rw[aaY];show(a8 (lN (HX ..) (xM (ao c ())))).trans (aN (bA.ok _) (ez ..))
def B8(l:List V):M V:=match aU l.length with
 |true=>(M.new (.list l)).G λn=>M.N ⇑n
 |false=>M.ab
def Zd(g:Int)(q:List V)(d:Nat):ag (aH sc) (k+1) oS [.J (↑g::q),⇑d]=(B8 (↑g::q)).G λB=>(kT (aH sc) (.C 0) ↑g (.J [])).G (hZ (a5 (aH sc) k oS [2] 46) [("e",.J (↑g::q)),("kids",⇑d),("row",B),("at",↑0)] (az (aH sc) k oS [2] 47)):=by ac_rfl
abbrev aeQ(C:List Int)(k:Nat)(g:Int)(q:List V)(o U:Nat):V->M V:=hZ (a5 (aH C) k oS [2] 46) [("e",.J (↑g::q)),("kids",⇑o),("row",⇑U),("at",↑0)] (az (aH C) k oS [2] 47)
def pX{v:List V}{d:Nat}{K:Nat->M V}(t:hj sc c v)(a:r.length<=90)(z:∀U,aeQ sc k c r d U (.J v)=K U):ag (aH sc) (k+1) oS [.J (↑c::r),⇑d]=(M.new (.list (↑c::r))).G K:=by
 let Q:B8 (↑c::r)=(M.new (.list (↑c::r))).G λU=>M.N ⇑U:=by unfold B8;rw[g0 (ao (hJ a) ())]
 rw[Zd,Q,t,hv];show aN (M.G _) (funext z)
section
variable{a1 DW:V}{aa:List V}{o:Nat}
def iQ(C:List Int)(k o:Nat)(p:aG)(a b:List V):Prop:=wB p (ag (aH C) (k+1) oS [.J a,⇑o]) (.J b)
def Ai(E y:ah)(t:hj sc c [.J [↑2,↑1]])(h:D[o]?=I (.list (ax y::aa)))(a:r.length<=80):iQ sc k o D (↑c::a1::ax E::r) (↑c::a1::ax y::r):=by unfold iQ;rw[ir E,pX (r:=a1::.J (px E)::r) (K:=vM (aH sc) o 2) t (ao (c_ a 2) ()) λU=> #[]];show DS (p:=2) (av:=2) h j (fE ..) (ao (c_ a 3) ())
def NO(E y:ah)(t:hj sc c [.J [↑2,↑2]])(h:D[o]?=I (.list (ax y::aa)))(a:r.length<=80):iQ sc k o D (↑c::a1::ax E::r) (↑c::a1::ax y::r):=by unfold iQ;rw[ir E,pX (r:=a1::.J (px E)::r) (K:=vM (aH sc) o 2) t (ao (c_ a 2) ()) λU=> #[]];show DS (p:=2) (av:=2) h j (fE ..) (ao (c_ a 3) ())
def NP(E y:ah)(t:hj sc c [.J [↑3,↑1]])(h:D[o]?=I (.list (ax y::aa)))(a:r.length<=80):iQ sc k o D (↑c::a1::h_::ax E::r) (↑c::a1::h_::ax y::r):=by unfold iQ;rw[ir E,pX (r:=a1::h_::.J (px E)::r) (K:=vM (aH sc) o 3) t (ao (c_ a 3) ()) λU=> #[]];show DS (p:=3) (av:=3) h j (fE ..) (ao (c_ a 4) ())
def FA(E l y B:ah)(t:hj sc c [.J [↑3,↑1],.J [↑4,↑1]])(h:D[o]?=I (.list (ax y::ax B::aa)))(a:r.length<=80):iQ sc k o D (↑c::a1::h_::ax E::ax l::r) (↑c::a1::h_::ax y::ax B::r):=by unfold iQ;rw[ir E,ir l,pX (r:=a1::h_::.J (px E)::.J (px l)::r) (K:=y3 (aH sc) o 3 4) t (ao (c_ a 4) ()) λU=> #[]];show Mj (p:=3) (av:=3) (q:=4) (i:=4) h j j (fE 4 _) (fE ..) (ao (c_ a 5) ())
def NN(E l y B:ah)(t:hj sc c [.J [↑2,↑1],.J [↑3,↑1]])(h:D[o]?=I (.list (ax y::ax B::aa)))(a:r.length<=80):iQ sc k o D (↑c::a1::ax E::ax l::r) (↑c::a1::ax y::ax B::r):=by unfold iQ;rw[ir E,ir l,pX (r:=a1::.J (px E)::.J (px l)::r) (K:=y3 (aH sc) o 2 3) t (ao (c_ a 3) ()) λU=> #[]];show Mj (p:=2) (av:=2) (q:=3) (i:=3) h j j (fE 3 _) (fE ..) (ao (c_ a 4) ())
def FC(t:hj sc c [.J [↑2,↑3]])(h:D[o]?=I (.list aa))(A:as.length=aa.length)(O:aa.length<=1000):iQ sc k o D [↑c,a1,.J as] [↑c,a1,.J aa]:=by unfold iQ;rw[pX (r:=[a1,.J as]) (K:=tf (aH sc) o 2 as) t (by decide:2<=90) λU=> #[]];show DT (p:=2) (av:=2) h j (by decide:2<3) (by decide:3<=100) A O
def NQ(t:hj sc c [.J [↑3,↑3]])(h:D[o]?=I (.list aa))(A:as.length=aa.length)(O:aa.length<=1000):iQ sc k o D [↑c,a1,h_,.J as] [↑c,a1,h_,.J aa]:=by unfold iQ;rw[pX (r:=[a1,h_,.J as]) (K:=tf (aH sc) o 3 as) t (by decide:3<=90) λU=> #[]];show DT (p:=3) (av:=3) h j (by decide:3<4) (by decide:4<=100) A O
def NR(t:hj sc c [.J [↑2,↑2],.J [↑4,↑3]])(h:D[o]?=I (.list aa))(A:as.length=aa.length)(O:aa.length<=1000):iQ sc k o D [↑c,a1,.none,h_,.J as,DW] [↑c,a1,.none,h_,.J aa,DW]:=by unfold iQ;rw[pX (r:=[a1,.none,h_,.J as,DW]) (K:=tf (aH sc) o 4 as) t (by decide:5<=90) λU=> #[]];show DT (p:=4) (av:=4) h j (by decide:4<6) (by decide:6<=100) A O
end
def nY(C:List Int)(k:Nat)(p:aG)(o:Nat)(z:bP)(H T:List ah):Prop:=p[o]?=I (.list (bi T))->iQ C k o p (iq z (bi H)) (iq z (bi T))
section
variable{o:Nat}
def DU(A:cA aa.length 1=L)(s:cA dn.length 1=L)(n:∀E y,nY sc k D o h [E] [y]):nY sc k D o h aa dn:=il (P:=λaa=>nY sc k D o h aa dn) aa A λE=>il (P:=nY sc k D o h [E]) dn s (n E)
def DV(A:cA aa.length 2=L)(s:cA dn.length 2=L)(n:∀E l y B,nY sc k D o h [E,l] [y,B]):nY sc k D o h aa dn:=kP (P:=λaa=>nY sc k D o h aa dn) aa A λE l=>kP (P:=nY sc k D o h [E,l]) dn s (n E l)
def yl{P:Prop}(A:cA aa.length 0=L)(u:0<aa.length):P:=cH (rA A) (tk u)
theorem aeS(t:iZ h=L\/h=.ref\/h=.bV)(f:gd h=ak)(d:∀i,h≠.dJ i)(A:h.bF aa.length=L)(s:h.bF dn.length=L)(n:(bi aa).length=(bi dn).length)(c:(bi dn).length<=1000)(u:0<aa.length)(a:0<dn.length):nY sc k D o h aa dn:=by
 cases h with
 |dJ i=>cases(d i) j
 |cb _=>cases f
 |bO _=>obtain h|h|h:=t<;>cases h
 |seq _=>obtain h|h|h:=t<;>cases h
 |call _ _=>show λb=>NR #[] b n c
 |new _ _=>show λb=>NQ #[] b n c
 |iS=>show λb=>FC #[] b n c
 |bV=>show λb=>FC #[] b n c
 |hg _=>show DU (D1.mpr (y_ (cc A) u)) (D1.mpr (y_ (cc s) a)) λE y b=>NO E y #[] b (cc j)
 |ix=>show DU A s λE y b=>NP E y #[] b (cc j)
 |bin _=>show DV A s λE l y B b=>FA E l y B #[] b (cc j)
 |lift _ _=>show DV A s λE l y B b=>FA E l y B #[] b (cc j)
 |c8=>show DV A s λE l y B b=>NN E l y B #[] b (cc j)
 |const _ _=>show yl A u
 |aj _ _=>show yl A u
 |this _=>show yl A u
 |slot _ _=>show yl A u
 |_=>show DU A s λE y b=>Ai E y #[] b (cc j)
def aeR(t:iZ h=L\/h=.ref\/h=.bV)(f:gd h=ak)(a:∀i,h≠.dJ i)(A:h.bF aa.length=L)(V:aa.length=dn.length)(c:aa.length<=1000)(u:0<aa.length)(b:D[o]?=I (.list (bi dn))):∃Y,ag (aH sc) (k+1) oS [ax (.mk h aa),⇑o] D=.ok (ax (.mk h dn)) (D++Y):=aeS (sc:=sc) (k:=k) t f a A (V▸A) ((iV aa).trans (V.trans (iV dn).symm)) ((iV dn).trans V.symm▸c) u (V▸u) b
end
variable{l:List V}{jl pU:List bc}
section
variable{x:cX}{m:M V}
mutual
noncomputable def xq:bc->Bool
 |.cb _ _ _=>L
 |.bO _ y n=>fM y||fM n
 |.expr _=>ak
 |.cD _ _=>ak
noncomputable def fM:List bc->Bool
 |[]=>ak
 |s::r=>xq s||fM r
end
def mk(b:Bool)(B:V):V:=match b with
 |true=>.J [↑93,B]
 |false=>B
mutual
noncomputable def fJ:bc->V
 |.expr e=>.J [↑1,ax e]
 |.cD n e=>.J [↑94,↑n,ax e]
 |.cb n _ t=>.J [↑93,.J [↑95,↑n,ax t]]
 |.bO t y n=>mk (fM y||fM n) (.J [↑4,ax t,mk (fM y) (.J [↑3,.J (ca y),↑0]),mk (fM n) (.J [↑3,.J (ca n),↑0])])
noncomputable def ca:List bc->List V
 |[]=>[]
 |s::r=>fJ s::ca r
end
def gY(v:List bc):V:=mk (fM v) (.J [↑3,.J (ca v),↑0])
theorem m5:∀v l:List bc,ca (v++l)=ca v++ca l:=by
 intro q
 induction q with
 |nil=>intro l;show j
 |cons D q w=>intro l;show aN (zC (fJ D)) (w l)
theorem py:∀v:List bc,(ca v).length=v.length:=by
 intro q
 induction q with
 |nil=>show j
 |cons D q w=>show aN j4 (w)
def xZ(y:Bool){d:Int}(G:(d==93)=ak)(q:List V):∃g c,mk y (.J (↑d::q))=.J (↑g::c)/\(g==93)=y:=by
 obtain _|_:=y
 .show#[_,_,j,G]
 show#[_,_,j,j]
theorem GQ(D:bc):∃g q,fJ D=.J (↑g::q)/\(g==93)=xq D:=by
 cases D with
 |expr Q=>show#[_,_,j,j]
 |cD U Q=>show#[_,_,j,j]
 |cb U p r=>show#[_,_,j,j]
 |bO r e U=>show xZ _ j _
theorem QQ:∀v:List bc,∃T:List (Int×List V),ca v=T.map (λv=>.J (↑v.1::v.2))/\T.any (λv=>v.1==93)=fM v:=by
 intro q
 induction q with
 |nil=>show#[[],j,j]
 |cons D q w=>obtain⟨T,f,o⟩:=w;obtain⟨g,l,M,b⟩:=GQ D;show#[(g,l)::T,congr (aN zC M) f,by rw[tw,o,b];rfl]
theorem VV(D:V):∀(T:List (Int×List V))(Y:ap),(Y=([("s",D)]:ap)\/∃a,Y=([("s",D),("kid",a)]:ap))->cf (a5 C k iE [0] 48) (T.map λv=>.J (↑v.1::v.2)) Y (az C k iE [0] 49)=M.N (mk (T.any λv=>v.1==93) D):=by
 intro q
 induction q with
 |nil=>
  intro Y c;obtain rfl|⟨a,rfl⟩:=c
  .show YH D
  .show YG D a
 |cons r q w=>
  obtain⟨g,l⟩:=r;intro Y c;let f:cf (a5 C k iE [0] 48) (((g,l)::q).map λv=>.J (↑v.1::v.2)) Y (az C k iE [0] 49)=(bh C .Eq ↑g ↑93).G λ
   |true=>M.N (.J [↑93,D])
   |false=>cf (a5 C k iE [0] 48) (q.map λv=>.J (↑v.1::v.2)) [("s",D),("kid",.J (↑g::l))] (az C k iE [0] 49):=by
   obtain rfl|⟨a,rfl⟩:=c
   .show YE ..
   .show YF ..
  rw[f,iT,a_,tw];obtain _|_:=g==93
  .show w _ (.inr #[_,j])
  rfl
def Jp{s:V}{l:List (Int×List V)}(z:bX (ag (aH sc) k "stmt_kids" [s]) (.J (l.map λv=>.J (↑v.1::v.2)))):bX (ag (aH sc) (k+1) iE [s]) (mk (l.any λv=>v.1==93) s):=by rw[YD];show z.G ?_;split bX (cf _ _ _ _) _;rw[VV _ _ _ (.inl j)];show bX.N _
def UC(z:l.length<=3000000):bX (ag (aH sc) (k+2) "stmt_kids" [.J [↑3,.J l,↑0]]) (.J l):=by rw[Y7,Y0];show(wC l z).G (bX.N _)
def UD(r:V)(E y:List V):bX (ag (aH sc) (k+2) "stmt_kids" [.J [↑4,r,.J E,.J y]]) (.J [.J E,.J y]):=by rw[Y8,Yx];show(Am _ _).G (bX.N _)
def K4{e:Nat}(z:D[e]?=I (.list (ca p)))(c:p.length<=3000000):∃Y,ag (aH sc) (k+4) "row_of" [⇑e] D=.ok (gY p) (D++Y):=by obtain⟨T,f,o⟩:=QQ p;let h:=Jp (sc:=sc) (k:=k+2) (l:=T) (s:=.J [↑3,.J (ca p),↑0]) (by rw[<-f];show UC (by rw[py];show c));rw[o] at h;rw[Y3,a8 (lN z (by rw[py];omega)),im];show h D
def TK(r:V)(e U:List bc):bX (ag (aH sc) (k+4) iE [.J [↑4,r,gY e,gY U]]) (mk (fM e||fM U) (.J [↑4,r,gY e,gY U])):=by obtain⟨O,D,f,b⟩:=xZ (fM e) (d:=3) j [.J (ca e),↑0];obtain⟨n,c,a,o⟩:=xZ (fM U) (d:=3) j [.J (ca U),↑0];unfold gY;rw[f,a];have:=Jp (sc:=sc) (k:=k+3) (l:=[(O,D),(n,c)]) (UD (k:=k+1) r (↑O::D) (↑n::c));rw[tw,tw,List.any_nil,D6] at this;simp only[b,o] at this;show this
theorem dT.len(w:dT x a i c D):13<=D.length:=by obtain⟨H,rfl⟩:=w;rw[cu,r5];omega
inductive EW(x:cX)(a i bW:Int)(D:aG)(c4:List V)(K:Nat->M V)(m:M V):Prop
 |mk (y:aG) (w:dT x a i bW y) (b:y[D.length]?=I (.list c4)) (F:Fr D.length D y) (l:D.length<y.length) (e:m D=K D.length y):EW x a i bW D c4 K m
theorem Hs{m:Nat->M V}{S:V->V}{K:Nat->M V}(w:dT x a i c D)(g:bN x a i D.length c bW c4 v (m D.length))(d:c4.length<=3000000)(b:c4++[S v]=oR):EW x a i bW D oR K ((M.new (.list [])).G λe=>oC C k ⇑e (m e) S (K e)):=by obtain⟨z,f,j,q,y⟩:=g [] (D++[.list []]) (w.app _) (dU _ _) (by rw[afj,em];show ao d ());replace q:z[D.length]?=I (.list c4):=q;let b4:D.length<z.length:=qS q;show#[z.set D.length (.list oR),j.set w.len _,iF b4,(Fr.app _).trans (y.trans (Fr.set _)),za b4 fV.symm,?_];show(kq _ _ _).trans ((a8 (sV (dU _ _))).trans ((a8 f).trans ?_));subst b;split (((l2 ⇑D.length (S v)).G λh=>M.N V.none).G λh=>K D.length) z=_;rw[hv,r0 q (ao d ())];rfl
def xy(U:Int)(B:V):V:=.J [↑94,↑U,B]
def GS(v:List bc)(Q:ah):ca v++[xy c (ax Q)]=ca (v++[.cD c Q]):=(m5 v [.cD c Q]).symm
def Ls{D:bc}(z:p.length<=2000000):(p++[D]).length<=3000000:=by rw[cu];show ao (c_ z 1) ()
def GR(z:p.length<=2000000):(ca p).length<=3000000:=by rw[py];show ao z ()
theorem Fr.over{v l:Nat}(n:Fr v D dI)(a:Fr l dI lM)(t:D.length<=v)(r:D.length<=l):Fr a4 D lM:= #[ao n.1 a.1,λU f o b=>(a.2 U f (fF o n.1) (iG (fF o r))).trans (n.2 U f o (iG (fF o t)))]
def AJ(C:List Int)(k m:Nat)(n g r e o:V):M V:=(e' (aH C) ⇑m c9).G λl=>(ag (aH C) (k+4) "row_of" [e]).G λp=>(ag (aH C) (k+4) "row_of" [o]).G λa=>(ag (aH C) (k+4) iE [.J [↑4,r,p,a]]).G λs=>(k1 #[aH C,[],ag (aH C) (k+4),λb=>ak,ak,#[.function,[],ak,ak,[]]] ⇑m l [s]).G λb=>M.N (.J [↑91,n,g])
def PY(C:List Int)(k m:Nat)(n:V)(g:Int)(r b:V)(e:Nat):M V:=(M.new (.list [])).G λo=>oC (aH C) (k+4) ⇑o (ag (aH C) (k+4) dL [⇑11,b,⇑o]) (xy g) (AJ C k m n ↑g r ⇑e ⇑o)
theorem PZ{e d:Nat}{l:List bc}{aQ c:V}{t:ah}(g:D[a4]?=I (.list vs))(m:D[e]?=I (.list (ca p)))(b:D[d]?=I (.list (ca l)))(f:p.length<=3000000)(r:l.length<=3000000)(x:vs.length+1<=4000000):∃Y,AJ sc k a4 aQ c (ax t) ⇑e ⇑d D=.ok (.J [↑91,aQ,c]) ((D++Y).set a4 (.list (vs++[fJ (.bO t p l)]))):=by obtain⟨H,h⟩:=K4 (sc:=sc) (k:=k) m f;obtain⟨y,i⟩:=K4 (sc:=sc) (k:=k) ((eP (l₂:=H) (qS b)).trans b) r;obtain⟨j,z⟩:=TK (sc:=sc) (k:=k) (ax t) p l (D++H++y);rw[show D++H++y++j=D++(H++(y++j)) from(ez ..).trans (ez ..)] at z;show#[H++(y++j),(a8 (sV g)).trans ((a8 h).trans ((a8 i).trans ((a8 z).trans ?_)))];let a:(D++(H++(y++j)))[a4]?=I (.list vs):=(eP (qS g)).trans g;split (((l2 ⇑a4 _).G λn=>M.N V.none).G λn=>_) _=_;rw[hv,r0 a (hH x)];rfl
theorem Ps{u b l B hk:ah}{aQ:Int}(D:13<=a4)(A:∀a4,13<=a4->bN x a i a4 (c+1) bW (ca jl) (ax l) (ag (aH sc) (k+4) dL [⇑11,ax u,⇑a4]))(G:∀a4,13<=a4->bN x a i a4 bW eS (ca pU) (ax B) (ag (aH sc) (k+4) dL [⇑11,ax b,⇑a4]))(o:jl.length<=2000000)(n:pU.length<=2000000):bN x a i a4 c eS [fJ (.bO hk (jl++[.cD (c+1) l]) (pU++[.cD (c+1) B]))] (ax (jq aQ (c+1))) (AD (aH sc) (k+4) ↑aQ (ax u) (ax b) ⇑a4 (ax hk)):=by show bN.slot D ?_;intro O p w g T;let h:=qS g;obtain⟨z,j,q,y,b4,f⟩:=Hs (C:=aH sc) (k:=k+4) (m:=λe=>ag (aH sc) (k+4) dL [⇑11,ax u,⇑e]) (S:=xy (c+1)) (K:=PY sc k a4 ↑aQ (c+1) (ax hk) (ax b)) w (A _ w.len) (GR o) (GS jl l);obtain⟨N,J,v,r,cp,d⟩:=Hs (C:=aH sc) (k:=k+4) (m:=λe=>ag (aH sc) (k+4) dL [⇑11,ax b,⇑e]) (S:=xy (c+1)) (K:=λH=>AJ sc k a4 ↑aQ ↑(c+1) (ax hk) ⇑p.length ⇑H) j (G _ j.len) (GR n) (GS pU B);let E:=r.get D (iG (oX h b4)) (y.get D (iG h) g);obtain⟨Y,s⟩:=PZ (sc:=sc) (k:=k) (aQ:= ↑aQ) (c:= ↑(c+1)) (t:=hk) E (r.get w.len (iG b4) q) v (Ls o) (Ls n) T;show#[_,(f.trans (d.trans s)).trans ?_,(J.app Y).set D _,iF (fF (qS E) (Fr.app (a4:=a4) Y).1),(y.over r (bq _) (mL b4)).trans ((Fr.app Y).trans (Fr.set _))];rfl
end
variable{a6:List V}{es:List (Int×V)}{E:V}{os:List V}{b6:Int}
section
variable{x:cX}{o:Nat}{m:M V}
def mt{u e:aq}(z:b=L):(match(generalizing:=false) b with|true=>u|false=>e)=u:=by rw[z]
def Ca{u e:aq}(z:b=ak):(match(generalizing:=false) b with|true=>u|false=>e)=e:=by rw[z]
def BZ{T:ap}{h:ap->M aC}(z:D[o]?=I (.list a6))(s:a6.length<=av):h5 f o 0 av T h D=h T D:=congrFun ((qR (f:=λO=>match b' O.length av with|true=>h T|false=>M.ab) z).trans (mt (j2.mpr s))) D
def BY{T:ap}{h:ap->M aC}(z:D[o]?=I (.list a6))(s:a6[av]?=I v):h5 f o (n+1) av T h D=f v T (λT=>h5 f o n (av+1) T h) D:=congrFun ((qR (f:=λO=>match O[av]? with|some v=>f v T (λT=>h5 f o n (av+1) T h)|none=>h T) z).trans (by rw[s])) D
def id_eq{e:Option O}{f:List (Int×V)->M aq}(z:e=I (.id es)):(match(generalizing:=false) e with|some (.id vs)=>f vs|_=>M.ab)=f es:=by rw[z]
def Qs{T:ap}{h:ap->M aC}(z:D[o]?=I (.id es)):kY f o (es.map (·.1)) [] T h D=h T D:=congrFun ((id_eq (f:=λQ=>match↥(Q.map (·.1)=es.map (·.1)) with|true=>h T|false=>M.ab) z).trans (mt (cW j))) D
def Qr{U:Int}{q:List Int}{T:ap}{h:ap->M aC}(z:D[o]?=I (.id es)):kY f o (es.map (·.1)) (U::q) T h D=f ↑U T (λT=>kY f o (es.map (·.1)) q T h) D:=congrFun ((id_eq (f:=λQ=>match↥(Q.map (·.1)=es.map (·.1)) with|true=>f ↑U T (λT=>kY f o (es.map (·.1)) q T h)|false=>M.ab) z).trans (mt (cW j))) D
def R1{h:Type}(f:V->ap->(ap->M h)->M h)(U:Nat)(Y:ap)(c:ap->M h):Option O->M h
 |some (.list vs)=>h5 f U vs.length 0 Y c
 |some (.id es)=>kY f U (es.map (·.1)) (es.map (·.1)) Y c
 |some (.aX [])=>c Y
 |_=>M.ab
def Bg{Y:ap}{c:ap->M aC}{e:O}(z:D[o]?=I e):hZ f Y c ⇑o D=R1 f o Y c (I e) D:=z▸j
theorem QS(E y:List ah):bi (E++y)=bi E++bi y:=by
 induction E with
 |nil=>rfl
 |cons Q q w=>show aN (ax Q:: ·) w
def g2:Nat->Nat->List V
 |_,0=>[]
 |av,m+1=> ↑(av:Int)::g2 (av+1) m
theorem TJ(m:Nat):∀Y,g2 Y m=(List.range' Y m).map λ(i:Nat)=>V.int (rJ i):=by
 induction m with
 |zero=>show λa=>j
 |succ m w=>show λY=>aN (V.int (Y:Int):: ·) (w (Y+1))
def Zl{U:Int}(z:(↥(-1000000<U)&& ↥(U<1000000))=b)(C:b=L):eW ↑U=M.N (lO U):=by unfold eW;dsimp only;rw[z,C]
def Zj{U:Int}(u:0<=U)(z:U<=1000):(↥(-1000000<U)&& ↥(U<1000000))=L:=dj.mpr #[cW (),cW ()]
def vt{m:Nat}(z:m<=1000):eW ↑m=M.N (g2 0 m):=by show(Zl (Zj (fG _) (qc.mpr z)) j).trans (aN M.N ?_);rw[TJ,<-List.range_eq_range'];unfold lO;rw[rK]
def nQ(C:List O)(cP:V)(Y:Nat)(H:List ah):Prop:=∀m e,H[m]?=I e->aJ C cP ↑((Y+m:Nat):Int)=M.N (ax e)
theorem nQ.fb{cP:V}(z:nQ C cP av (e::aa)):nQ C cP (av+1) aa:=λm a l=>by rw[nC];show z (m+1) a l
theorem nQ.all(z:aa.length<=1000):nQ C (.J (bi aa)) 0 aa:=λm Q q=>by rw[em];show gf _ m j (ao (mL (c5.mp q).1) (ao z ())) (by rw[w4,rt,q];rfl)
def xK:Nat->Int->List ah->Int
 |_,l,[]=>l
 |av,l,e::r=>xK (av+1) (if ct e then(av:Int) else l) r
theorem UV(H:List ah):∀(Y:Nat)(T:Int),xK Y T H=if dQ H then((Y+jh H:Nat):Int) else T:=by
 induction H with
 |nil=>show λa a=>j
 |cons Q q w=>
  intro Y T;show(w (Y+1) _).trans ?_;split _=if(ct Q||dQ q)=L then((Y+(if dQ q then jh q+1 else 0):Nat):Int) else T;obtain _|_:=dQ q
  .rw[D6];rfl
  rw[afT,aL j,aL j,aL j,nC];rfl
abbrev Vn(U x cP:V)(l:Int):ap:=[("sp",⇑11),("e",U),("pre",x),("kids",cP),("last",↑l)]
abbrev sF(U x cP:V)(l:Int)(a:V):ap:=(ro U x cP ↑l a)
def Nz(C:List O)(k:Nat)(U x cP:V)(h:ap->M V)(J:List ah):Prop:=∀(av:Nat)(l:Int)(Y:ap)(D:aG),nQ C cP av J->(Y=Vn U x cP l/\J≠[]\/∃u,Y=sF U x cP l u)->
 ∃b u,cf (a5 C k e2 [2] 46) (g2 av J.length) Y h D=h (sF U x cP (xK av l J) u) (D++b)
theorem UW{pre cP:V}{K:ap->M V}(J:List ah)(A:∀Q∈J,bX (ag C k ey [ax Q]) (.bool (ct Q))):Nz C k E pre cP K J:=by
 induction J with
 |nil=>
  intro Y T c p _ z;obtain⟨_,z⟩|⟨a,rfl⟩:=z
  .cases z j
  .show#[[],a,by rw[dS];rfl]
 |cons Q q w=>
  intro Y T c p y z;let f:cf (a5 C k e2 [2] 46) (g2 Y (Q::q).length) c K=(aJ C cP ↑Y).G λu=>(ag C k ey [u]).G λg=>(dp C g).G λ
   |true=>cf (a5 C k e2 [2] 46) (g2 (Y+1) q.length) (sF E pre cP Y ↑Y) K
   |false=>cf (a5 C k e2 [2] 46) (g2 (Y+1) q.length) (sF E pre cP T ↑Y) K:=by
   obtain⟨rfl,_⟩|⟨a,rfl⟩:=z
   .show YA ..
   .show YB ..
  obtain⟨H,d⟩:=A Q (.head _) p;rw[f,y 0 Q j,a_,a8 d];let n:=λT=>w (λe h=>A e (.tail _ h)) (Y+1) T (sF E pre cP T ↑Y) (p++H) y.fb (.inr #[_,j]);split∃b a,_=K (sF E pre cP (xK (Y+1) (if ct Q then(Y:Int) else T) q) a) (p++b);obtain _|_:=ct Q
  .obtain⟨b,a,s⟩:=n T;show#[H++b,a,by rw[<-ez];show s]
  obtain⟨b,a,s⟩:=n (Y:Int);show#[H++b,a,by rw[<-ez];show s]
def rO(m o:Nat)(p y:aG):Prop:=p.length<=y.length/\∀n,13<=n->n<p.length->n≠m->n≠o->y[n]?=p[n]?
theorem rO.trans(z:rO a4 o D dI)(s:rO a4 o dI lM):rO a4 o D lM:= #[ao z.1 s.1,λU E y g x=>(s.2 U E (fF y z.1) g x).trans (z.2 U E y g x)]
structure tC(x:cX)(a i c:Int)(a4 o:Nat)(vs os:List V)(D:aG):Prop where
 B:dT x a i c D
 V:D[a4]?=I (.list vs)
 O:D[o]?=I (.list os)
inductive rS(x:cX)(a i c:Int)(a4 o:Nat)(vs os:List V)(D:aG)(R:bA V)(F:V->aG->bA V):Prop
 |mk (s:aG) (u:V) (h:R=F u s) (a6:tC x a i c a4 o vs os s) (f:rO a4 o D s):rS x a i c a4 o vs os D R F
theorem CP{cP E u:V}{m:V->M V}{h:M V}{p l:List V}{n:V->aG->bA V}(A:13<=o)(w:o≠a4)(J:aJ C cP E=M.N u)(H:bN x a i a4 c bW c4 v (m u))(r:tC x a i c a4 o vs os D)(T:vs.length+c4.length<=4000000)(ab:os.length<=4000000)
  (s:∀z,tC x a i bW a4 o (vs++c4) (os++[v]) z->rS x a i eS a4 o p l z (h z) n):rS x a i eS a4 o p l D (sW C k o cP E m h D) n:=by
 obtain⟨z,f,j,q,y⟩:=H vs D r.B r.V T;let d:=y.get A w r.O;let Q:sW C k o cP E m h D=h (z.set o (.list (os++[v]))):=by show(a8 (sV r.O)).trans ?_;rw[J];show(a8 f).trans ?_;split (((l2 ⇑o v).G λ_=>M.N V.none).G λ_=>h) z=_;rw[hv,r0 d ab];rfl
 obtain⟨ac,ae,t,e,g⟩:=s (z.set o (.list (os++[v]))) #[j.set A _,(gh (i8 w)).trans q,iF (c5.mp d).1];show#[ac,ae,Q.trans t,e,rO.trans #[by rw[fV];show y.1,λU Y t aa b=>(gh b).trans (y.2 U Y t aa)] g]
def u5(C:List O)(k:Nat)(U x:V)(Y l:Int):V->M V:=if Y<l then λu=>ag C k mG [⇑11,U,u,↑Y,x] else if Y=l then λu=>ag C k dL [⇑11,u,x] else M.N
theorem CC{x H:V}{T Y:Int}(c:ap->M V):a5 C k e2 [4] 44 ↑Y (kX E x H T u o) c=sW C k o H ↑Y (u5 C k E x Y T) (c (kX E x H T ↑Y o)):=by
 rw[YJ,show bh C .Lt ↑Y ↑T=M.N ↥(Y<T) from j,a_,iT,a_];unfold u5;by_cases z:Y<T
 . (rw[cW z,aL z])<;>rfl
 .rw[f8 z,aS z];by_cases s:Y=T
  . (rw[aL s,s,fh])<;>rfl
  . (rw[aS s,beq_eq_false_iff_ne.mpr s])<;>rfl
def Ar{q:List ah}:os++bi (e::q)=(os++[ax e])++bi q:=(ez os [ax e] (bi q)).symm
def uS{m:Nat}(z:os.length+(n+1)<=m):(os++[v]).length+n<=m:=by rw[cu,fD,j1 [v].length];show z
def NJ(C:List O)(k:Nat)(x:cX)(a i b:Int)(m o:Nat)(U cP:V)(g:Int)(J:List ah):Prop:=∀(av:Nat)(u:V)(vs os:List V)(K:ap->M V)(D:aG),nQ C cP av J->g<av->tC x a i b m o vs os D->vs.length<=4000000->os.length+J.length<=4000000->
 rS x a i b m o vs (os++bi J) D (cf (a5 C k e2 [4] 44) (g2 av J.length) (kX U ⇑m cP g u o) K D) λu=>K (kX U ⇑m cP g u o)
theorem ab1{cP:V}(m:13<=o)(v:o≠a4)(J:List ah):NJ C k x a i c a4 o E cP b6 J:=by
 induction J with
 |nil=>intro Y e O b h p _ _ r _ _;rw[show b++bi []=b from dS b];show#[p,e,j,r,bq _,λn n n n n=>j]
 |cons Q q w=>intro Y e O b h p y f r d B;let g:u5 C k E ⇑a4 Y b6=M.N:=(aS (Int.lt_asymm f)).trans (aS λl=>ahf f l.symm);rw[show cf (a5 C k e2 [4] 44) (g2 Y (Q::q).length) (kX E ⇑a4 cP b6 e o) h=_ from CC _,g,Ar];show CP m v (y 0 Q j) (bN.N (ax Q)) r d (ao (bv ..) B) λz s=>?_;rw[dS] at s;show w (Y+1) ↑Y O _ h z y.fb (zB f (mO Y)) s d (uS B)
mutual
noncomputable def ov:bc->Nat
 |.expr _=>1
 |.cD _ _=>1
 |.cb _ _ _=>1
 |.bO _ y n=>cG y+cG n+1
noncomputable def cG:List bc->Nat
 |[]=>0
 |s::r=>ov s+cG r
end
theorem mq(v l:List bc):cG (v++l)=cG v+cG l:=by
 induction v with
 |nil=>show(em _).symm
 |cons D q w=>show(aN (ov D+ ·) w).trans (fD ..).symm
theorem Wh(D:bc):1<=ov D:=by
 cases D with
 |bO _ e U=>show fE ..
 |_=>show bq _
theorem I0(v:List bc):v.length<=cG v:=by
 induction v with
 |nil=>show bq _
 |cons D q w=>show ao (ds (j1 ..)) (i6 (Wh D) w)
def lD{l:List bc}{m:Nat}(z:cG (p++l)<=m):cG p<=m:=by rw[mq] at z;show ao (bv ..) z
def vb{l:List bc}{m:Nat}(z:cG (p++l)<=m):cG l<=m:=by rw[mq] at z;show ao (fE ..) z
def f4(x:cX)(a i g:Int)(J:Nat->M V)(q:eg):Prop:=cG q.1<=1000000->∀a4,13<=a4->bN x a i a4 g q.2.2 (ca q.1) (ax q.2.1) (J a4)
def ET(C:List O)(k:Nat)(x:cX)(a i:Int)(U:V)(f s:ah->Int->Option eg)(Q:ah):Prop:=(∀c,a7 (f4 x a i c λa4=>ag C k dL [⇑11,ax Q,⇑a4]) (f Q c))/\∀c E,a7 (f4 x a i c λa4=>ag C k mG [⇑11,U,ax Q,↑E,⇑a4]) (s Q c)
def NC(C:List O)(k:Nat)(x:cX)(a i:Int)(m o:Nat)(U cP:V)(g:Int)(J:List ah)(Y:Nat)(b:Int)(q:List bc×List ah×Int):Prop:=J.length=q.2.1.length/\(cG q.1<=1000000->∀(u:V)(vs os:List V)(K:ap->M V)(D:aG),tC x a i b m o vs os D->vs.length+q.1.length<=4000000->os.length+J.length<=4000000->
 rS x a i q.2.2 m o (vs++ca q.1) (os++bi q.2.1) D (cf (a5 C k e2 [4] 44) (g2 Y J.length) (kX U ⇑m cP g u o) K D) λu=>K (kX U ⇑m cP g u o))
def ND(C:List O)(k:Nat)(x:cX)(a i:Int)(m o:Nat)(U cP:V)(g:Int)(f s:ah->Int->Option eg)(J:List ah):Prop:=∀n av c,nQ C cP av J->g=((av+n:Nat):Int)->a7 (NC C k x a i m o U cP g J av c) (nn s f n J c)
def IY{m:Nat}(z:vs.length+(p.length+n)<=m):(vs++ca p).length+n<=m:=by rw[cu,py,fD];show z
theorem W7{t:ah->Int->Option eg}{cP:V}(ac:13<=a4)(N:13<=o)(v:o≠a4)(J:List ah)(ab:∀Q∈J,ET C k x a i E t g Q):ND C k x a i a4 o E cP b6 t g J:=by
 induction J with
 |nil=>intro U Y D _ _;cases U<;>trivial
 |cons Q q w=>
  intro U Y D y f;let c:=ab Q (.head _);obtain _|U:=U
  .show(c.1 D).G λl e=> #[j,λp aa O b h ae r d B=>?_];subst f;let H:u5 C k E ⇑a4 Y ((Y+0:Nat):Int)=λu=>ag C k dL [⇑11,u,⇑a4]:=(aS (Ey _)).trans (aL j);rw[show cf (a5 C k e2 [4] 44) (g2 Y (Q::q).length) (kX E ⇑a4 cP _ aa o) h=_ from CC _,H,Ar];show CP (m:=λu=>ag C k dL [⇑11,u,⇑a4]) N v (y 0 Q j) (e p a4 ac) r (by rw[py];show d) (ao (bv ..) B) λz s=>ab1 N v q (Y+1) ↑Y _ _ h z y.fb (mO _) s (IY (n:=0) d) (uS B)
  show(c.2 D Y).G λl e=>(w (λaf M=>ab af (.tail _ M)) U (Y+1) l.2.2 y.fb (f.trans (aN rJ (nC Y U 1)))).G λA T=> #[aN j4 T.1,λp aa O b h ae r d B=>?_];let H:u5 C k E ⇑a4 Y b6=λu=>ag C k mG [⇑11,E,u,↑Y,⇑a4]:=aL (f▸tv.mpr (afB (lf U)));let d:O.length+(l.1++A.1).length<=4000000:=d;rw[cu] at d;rw[show cf (a5 C k e2 [4] 44) (g2 Y (Q::q).length) (kX E ⇑a4 cP b6 aa o) h=_ from CC _,H,Ar];split rS _ _ _ _ _ _ (O++ca (l.1++A.1)) _ _ _ _;rw[m5,<-ez];show CP (m:=λu=>ag C k mG [⇑11,E,u,↑Y,⇑a4]) N v (y 0 Q j) (e (lD p) a4 ac) r (by rw[py];show ao (e3 (bv ..) _) d) (ao (bv ..) B) λz s=>T.2 (vb p) ↑Y _ _ h z s (IY d) (uS B)
theorem Xw{ae:ah->Int->Option eg}(al:iZ h=L\/h=.ref\/h=.bV)(f:gd h=ak)(ac:∀i,h≠.dJ i)(l:h.bF aa.length=L)(ab:aa.length<=1000)(u:0<aa.length)(D:dQ aa=L)
  (A:∀Q∈aa,bX (ag (aH sc) (k+2) ey [ax Q]) (.bool (ct Q)))
  (n:∀Q∈aa,ET (aH sc) (k+2) x a i (ax (.mk h aa)) ae g Q):a7 (λq=>f4 x a i c (λm=>ag (aH sc) (k+3) e2 [⇑11,ax (.mk h aa),⇑m]) (q.1,.mk h q.2.1,q.2.2)) (nn g ae (jh aa) aa c):=by
 let Y:vo h (bi aa)=bi aa:=XJ (λdH Q=>by subst Q;obtain h|h|h:=al<;>cases h) ac;let aj:(bi aa).length<=4000000:=by rw[iV];show ao ab ()
 let ar:aa≠[]:=λQ=>by subst Q;cases u
 let kI:=nQ.all (C:=aH sc) ab;let an:=λm aw t N v=>W7 (C:=aH sc) (k:=k+2) (x:=x) (a:=a) (i:=i) (a4:=m) (o:=aw) (E:=ax (.mk h aa)) (cP:=.J (bi aa)) (b6:=((0+jh aa:Nat):Int)) t N v aa n (jh aa) 0 c kI j;rcases ay:nn g ae (jh aa) aa c with _|q
 .trivial
 intro ap m t aB p w af am;obtain⟨H,ai⟩:=IQ (sc:=sc) (k:=k) l (ao ab ()) p;rw[Y] at ai;obtain⟨y,aA,d⟩:=UW (C:=aH sc) (k:=k+2) (E:=ax (.mk h aa)) (pre:= ⇑m) (cP:=.J (bi aa)) (K:=az (aH sc) (k+2) e2 [2] 47) aa A 0 0 _ (p++H) kI (.inl #[j,ar]);rw[UV,D,aL j] at d;let aq:m<p.length:=(c5.mp af).1;let z:p.length<=(p++H++y).length:=by rw[cu,cu,fD];show bv ..
 let N:m<(p++H++y).length:=fF aq z;let T:=(an m (p++H++y).length t (ao t (mL N)) (tk N)).of ay;obtain⟨aC,aD,s,e,r⟩:=T.2 ap aA aB [] (az (aH sc) (k+2) e2 [4] 45) (p++H++y++[O.list []]) #[((w.app _).app _).app _,h6 (h6 (h6 af)),dU _ _] (by rw[py] at am;show am) (ao (ds (em _)) (ao ab ()));obtain⟨av,G⟩:=aeR (sc:=sc) (k:=k+1) al f ac l T.1 ab u e.O;show#[_,?_,e.B.app av,h6 e.V,Fr.trans #[?_,λU f ac M=>?_] (Fr.app _)]
 .split ag (aH sc) (k+3) e2 _ p=_;rw[YX,a8 ai,uT aj,a_,iV,vt ab,a_];show d.trans ?_;rw[YY,kq,uT aj,a_,iV,vt ab,a_];show s.trans ?_;rw[YZ,im];show G
 .show ao z (ao (by rw[cu (as:=p++H++y)];show bv ..) r.1)
 .let b:=fF ac z;show(r.2 U f (by rw[cu];show zb b) M (iG b)).trans ?_;rw[ez,ez];show eP ac
end
variable{mb:bP}
section
variable{x:cX}{o:Nat}{m:M V}
def s':bP->Bool
 |.this k=> ↥(k=16)|| ↥(k=18)
 |_=>L
structure eR(e:ah):Prop where
 gi:s2 e=L
 ln:pQ e=L
 di:qo s' e=L
structure fi(es:List ah):Prop where
 gi:p0 es=L
 ln:pQ.sQ es=L
 di:lu s' es=L
theorem eR.dK(s:eR (.mk h aa)):fi aa:= #[(aw s.gi).2,(aw s.ln).2,(aw s.di).2]
theorem eR.bF(s:eR (.mk h aa)):h.bF aa.length=L:=(aw (aw s.gi).1).1
theorem eR.le(s:eR (.mk h aa)):aa.length<=1000:=cc (aw s.ln).1
theorem fi.cons{es:List ah}(s:fi (e::es)):eR e/\fi es:= #[#[(aw s.gi).1,(aw s.ln).1,(aw s.di).1],(aw s.gi).2,(aw s.ln).2,(aw s.di).2]
theorem fi.mk'{b:List ah}(s:eR e)(z:fi b):fi (e::b):= #[a9 s.gi z.gi,a9 s.ln z.ln,a9 s.di z.di]
theorem fi.nil:fi []:= #[j,j,j]
theorem fi.mem{b:List ah}{Q:ah}(s:fi b)(z:Q∈b):eR Q:=by
 let y:∀Q∈b,eR Q:=by
  clear z Q
  induction b with
  |nil=>show λa z=>nomatch z
  |cons e q w=>show bg.mpr #[s.cons.1,w s.cons.2]
 show y Q z
theorem eR.has(s:eR e)(z:ec e<=k):bX (ag (aH sc) k ey [ax e]) (.bool (ct e)):=H5 e s.gi s.ln k z
theorem Tm:∀H,3<=qG H:=by
 intro q
 induction q with
 |nil=>show bq _
 |cons Q q w=>show ao (w) (f1 ..)
theorem uo:∀Q:ah,4<=ec Q
 |.mk _ H=>hJ (Tm H)
def uP(U:ec (.mk h aa)<=n):∀Q∈aa,ec Q+1<=n:=λQ V=>ao (hJ ((Bp (bq (qG aa))).2 Q V)) U
def Wd{q:eg}(l:cq k e c=I q):ec e+1<=k:=by
 obtain _|k:=k
 .cases l
 by_cases U:ec e<=k
 .show hJ U
 .let g:cq (k+1) e c=au:=aS U;rw[g] at l;cases l
inductive qh(h:bP):List V->Prop
 |mk (a1 h_:V) (r:List V):(BG h=L->h_=.none)->qh h (↑h.code::a1::h_::r)
theorem qh.of{a1:V}(Q:BG h=ak):qh h (↑h.code::a1::h_::r):=.mk _ _ _ λl=>nomatch Q.symm.trans l
def QR(A:h.bF aa.length=L)(u:dQ aa=L):qh h (iq h (bi aa)):=by
 cases h
 case call=>show .mk _ _ _ λa=>j
 case new=>show .of j
 case iS=>show .of j
 case bV=>show .of j
 case const=>show .of j
 case aj=>show .of j
 case slot=>show .of j
 case this=>show kf (P:=λaa=>dQ aa=L->qh _ (iq _ (bi aa))) aa A (λu=>nomatch u) u
 case hg=>
  obtain _|⟨_,_|_⟩:=aa
  .cases u
  .show .of j
  .cases A
 case seq=>
  obtain _|_:=aa
  .cases A
  .show .of j
 case bin=>show kP aa A λa a=>.of j
 case c8=>show kP aa A λa a=>.of j
 case lift=>show kP aa A λa a=>.of j
 case bO=>show r1 aa A λa a a=>.of j
 all_goals show il aa A λa=>.of j
inductive pb(aQ:Int):V->Prop
 |mk (C:V) (r:List V):pb aQ (.J (C:: ↑aQ::r))
theorem pb.self(s:eR e):pb e.kind (ax e):=by obtain⟨z,H⟩:=e;obtain⟨r,f⟩:=n9 s.bF;let f:ax (.mk z H)=.J _:=aN V.J f;rw[f];show .mk _ _
structure ih(sc:List Int)(x:cX)(a i:Int)(k:Nat):Prop where
 eX:∀e c,eR e->a7 (f4 x a i c λa4=>ag (aH sc) k dL [⇑11,ax e,⇑a4]) (cq k e c)
 jz:∀aQ t c,eR t->a7 (f4 x a i c λa4=>ag (aH sc) k "split_await" [⇑11,.J [↑30,↑aQ,ax t],⇑a4]) (pK k aQ t c)
 ch:∀aQ t s r c,fi [t,s,r]->ec s+1<=k->ec r+1<=k->a7 (f4 x a i c λa4=>ag (aH sc) k "split_choice" [⇑11,.J [↑17,↑aQ,ax t,ax s,ax r],⇑a4]) (pL k aQ t s r c)
 parts:∀h aa c,(iZ h=L\/h=.ref\/h=.bV)->gd h=ak->(∀i,h≠.dJ i)->h.bF aa.length=L->fi aa->aa.length<=1000->dQ aa=L->(∀e∈aa,ec e+1<=k)->a7 (f4 x a i c λa4=>ag (aH sc) k e2 [⇑11,ax (.mk h aa),⇑a4]) (gw k h aa c)
 ci:∀e c,eR e->ec e<=k->∀h l,qh h l->∀E,a7 (f4 x a i c λa4=>ag (aH sc) k mG [⇑11,.J l,ax e,↑E,⇑a4]) (nm k e c)
 cD:∀e c,eR e->3<=k->a7 (λr=>pb e.kind (ax r.2.1)/\f4 x a i c (λa4=>ag (aH sc) k mF [⇑11,ax e,⇑a4]) r) (k2 k e c)
 taken:∀e c,eR e->ec e<=k->a7 (f4 x a i c λa4=>ag (aH sc) k oV [⇑11,ax e,⇑a4]) (ou k e c)
def I_:ih sc x a i 0:= #[λb b b=>trivial,λb b b b=>trivial,λb b b b b b b b=>trivial,λb b b b b b b b b b b=>trivial,λb b b b b b b b=>trivial,λb b b b=>trivial,λb b b b=>trivial]
def Wi{r:ah}{l:List bc}{m:Nat}(z:cG [bc.bO r p l]<=m):cG p<=m/\cG l<=m:=by let z:cG p+cG l+1<=m:=z;show#[ao (ao (bv ..) (j3 _)) z,ao (ao (fE ..) (j3 _)) z]
def IZ(z:cG p<=1000000):p.length<=2000000:=ao (I0 p) (ao z ())
theorem bN.to{t:V->M V}(z:bN x a i a4 c bW c4 v m)(Q:t v=M.N u):bN x a i a4 c bW c4 u (m.G t):=by let y:=z.G (f:=t) (by rw[Q];show bN.N u);rw[dS] at y;show y
def xk{D:ah}(z:ec D<=k):∃Y,k=Y+4:= #[k-4,(ie (ao (uo D) z)).symm]
def Ve(w:ih sc x a i k):∀n r g,eR r->a7 (f4 x a i g λm=>ag (aH sc) (k+1) "split_await" [⇑11,.J [↑30,↑n,ax r],⇑m]) (pK (k+1) n r g):=λn r g s=>by
 obtain _|k:=k
 .trivial
 .show(w.eX r g s).G λq y p m t=>?_;split bN x a i m g _ (ca (q.1++[_])) _ (ag _ _ _ _);rw[m5,Yn];show(y (lD p) m t).G (bN.slot t (bN.CO t (bN.N _)))
theorem Vf(l:ih sc x a i k):∀n r D q g,fi [r,D,q]->ec D+1<=k+1->ec q+1<=k+1->a7 (f4 x a i g λm=>ag (aH sc) (k+1) "split_choice" [⇑11,.J [↑17,↑n,ax r,ax D,ax q],⇑m]) (pL (k+1) n r D q g):=λn r D q g s h u=>by
 let O:=s.cons.2.cons.1;let fK:=s.cons.2.cons.2.cons.1;let f:=O.has (sc:=sc) (el h);let w:=fK.has (sc:=sc) (el u);obtain⟨k,rfl⟩:=xk (el h);show(l.eX r g s.cons.1).G λo y=>?_;split a7 _ (if(ct D||ct q)=L then _ else _);by_cases C:(ct D||ct q)=L
 .rw[aL C];show(l.eX D _ O).G λe B=>(l.eX q _ fK).G λU b p m t=>?_;let d:=Wi (vb p);let M:=lD d.1;let v:=lD d.2;split bN x a i m g U.2.2 (ca (o.1++[.bO o.2.1 (e.1++[.cD (o.2.2+1) e.2.1]) (U.1++[.cD (o.2.2+1) U.2.1])])) (ax (jq n (o.2.2+1))) (ag _ _ _ _);rw[m5,Kx];let T:=Ps (aQ:=n) (hk:=o.2.1) t (B M) (b v) (IZ M) (IZ v);show(y (lD p) m t).G ?_;show f.s4.G ?_;rcases A:ct D with _|_
  .show w.s4.G ?_;rcases c:ct q with _|_
   .rw[A,c] at C;cases C
   .show T
  .show T
 .rw[aS C];show λp m t=>?_;split bN x a i m g o.2.2 (ca o.1) (.J [↑17,↑n,ax o.2.1,ax D,ax q]) (ag _ _ _ _);rw[Kx,<-dS (ca o.1)];show(y p m t).G ?_;rcases A:ct D with _|_
  .rcases c:ct q with _|_
   .rw[A] at f;rw[c] at w;show(f.G ?_).s4;show w.G ?_;show bX.N _
   .rw[A,c] at C;cases C j
  .rw[A] at C;cases C j
theorem a7.get{d:Option aq}:a7 (λE=>d=I E) d:=by
 cases d
 .trivial
 .show j
theorem H4:∀{H:List ah},dQ H=L->∃e q,H=e::q
 |e::q,_=> #[e,q,j]
theorem Vi(w:ih sc x a i k):∀z H g,(iZ z=L\/z=.ref\/z=.bV)->gd z=ak->(∀i,z≠.dJ i)->z.bF H.length=L->fi H->H.length<=1000->dQ H=L->(∀Q∈H,ec Q+1<=k+1)->a7 (f4 x a i g λd=>ag (aH sc) (k+1) e2 [⇑11,ax (.mk z H),⇑d]) (gw (k+1) z H g):=λz H g m f o l s c D U=>by
 let u:0<H.length:=by obtain⟨e,q,rfl⟩:=H4 D;show lf _
 obtain⟨k,rfl⟩:∃Y,k=Y+2:=by obtain⟨e,q,rfl⟩:=H4 D;obtain⟨Y,Q⟩:=xk (el (U e (.head _)));show#[Y+2,Q]
 show(Xw (k:=k) m f o l c u D (λQ V=>(s.mem V).has (el (U Q V))) λQ V=> #[λg=>w.eX Q g (s.mem V),λg E=>w.ci Q g (s.mem V) (el (U Q V)) z _ (QR l D) E]).G λq b=>b
theorem yx(z:bG mb=L):mb=.ref:=by
 cases mb
 case ref=>rfl
 all_goals cases z
theorem Cb(z:bG mb=ak):nm (k+1) (.mk mb aa) c=k2 k (.mk mb aa) c:=by
 cases mb
 case ref=>cases z
 all_goals rfl
def TG(l:qH h=L):(h.code==1)=ak/\(h.code==3)=ak:=by
 cases h
 case const=>cases l
 case this=>cases l
 case ref=>cases l
 all_goals show#[j,j]
theorem WC(z:bG mb=ak):(mb.code==33)=ak:=by
 cases mb
 case ref=>cases z
 all_goals rfl
theorem Vg(w:ih sc x a i k):∀Q g,eR Q->ec Q<=k+1->∀z T,qh z T->∀E,a7 (f4 x a i g λm=>ag (aH sc) (k+1) mG [⇑11,.J T,ax Q,↑E,⇑m]) (nm (k+1) Q g):=λQ g s U z T e E=>by
 let O:=el (ao (uo Q) U);obtain⟨c,H⟩:=Q;rcases d:bG c with _|_
 .let y:=w.cD _ g s O;obtain⟨r,f⟩:=n9 s.bF;let f:ax (.mk c H)=.J _:=aN V.J f;rw[f] at y|-;rw[Cb d];show y.imp λq y p m t=>?_;obtain⟨a1,b,T,h⟩:=e;let y:=y.2 p m t;split bN x a i m g _ _ _ (ag _ _ _ _);rw[YV z a1 b T _ E ⇑m h c.code,iT,a_,WC d];split bN x a i m g _ _ _ (match E==0 with|true=>_|false=>_);obtain _|_:=E==0
  .show y.end
  show y.end
 .obtain rfl:=yx d;show il (P:=λH=>eR (.mk .ref H)->ec (.mk .ref H)<=k+1->a7 (f4 x a i g λm=>ag (aH sc) (k+1) mG [⇑11,.J T,ax (.mk .ref H),↑E,⇑m]) (nm (k+1) (.mk .ref H) g)) H s.bF (λv s U=>?_) s U;show(w.taken v g s.dK.cons.1 (el (uP U v (.head _)))).G λq y p m t=>?_;split bN x a i m g q.2.2 (ca q.1) _ (ag (aH sc) (k+1) mG [⇑11,.J T,.J [↑33,↑21,ax v],↑E,⇑m]);rw[YW];show(y p m t).to j
def TB(w:ih sc x a i k){aQ:Int}(s:eR e):a7 (λq=>pb aQ (ax q.2.1)/\f4 x a i c (λm=>Bu (aH sc) k (ax e) ↑aQ ⇑m) q) (eI (cq k e (c+1)) λ(v,cn,bW)=>I (v++[bc.cD (c+1) cn],jq aQ (c+1),bW)):=by
 obtain _|k:=k
 .trivial
 .show(w.eX e _ s).G λq y=> #[.mk _ _,λp m t=>?_];split bN x a i m c _ (ca (q.1++[_])) _ _;rw[m5];show bN.slot t (bN.push (S:=λB=>.J [↑94,↑(c+1),B]) t (y (lD p) m t) (bN.N _))
theorem Vh(w:ih sc x a i k):∀Q g,eR Q->3<=k+1->a7 (λq=>pb Q.kind (ax q.2.1)/\f4 x a i g (λm=>ag (aH sc) (k+1) mF [⇑11,ax Q,⇑m]) q) (k2 (k+1) Q g):=λQ g s O=>by
 obtain⟨k,rfl⟩:∃Y,k=Y+2:= #[k-2,(ie (el O)).symm];let y:=TB (aQ:=Q.kind) (c:=g) w s;let d:=pb.self s;obtain⟨z,H⟩:=Q;rcases l:qH z with _|_
 .let A:s' z=L:=(aw s.di).1;cases Ij l with
  |const n B=>show#[d,λp m t=>?_];split bN x a i m g g [] _ (ag (aH sc) (k+2+1) mF [⇑11,.J (↑1:: ↑n::[B]),⇑m]);rw[yt];show bN.N _
  |this n=>
   split a7 _ (if n=16 then I ([],ah.mk (.this n) H,g) else eI _ _);by_cases O:n=16
   .rw[aL O];show#[d,λp m t=>?_];split bN x a i m g g [] _ (ag (aH sc) (k+2+1) mF [⇑11,.J (↑3:: ↑n::[]),⇑m]);rw[yt];show bN.xD (.inl #[O,j]) (bN.N _)
   .rw[aS O];show y.imp λq y=> #[y.1,λp m t=>?_];split bN x a i m g _ _ _ (ag (aH sc) (k+2+1) mF [⇑11,.J (↑3:: ↑n::[]),⇑m]);rw[yt];let b:n=18:=by
     obtain z|z:=hI.mp A
     .cases O (bS z)
     .show bS z
    show bN.xD (.inr #[b,j]) (y.2 p m t)
  |ref=>trivial
 .obtain⟨r,f⟩:=n9 s.bF;let f:ax (.mk z H)=.J _:=aN V.J f;let o:=TG l;rw[xY l];rw[f] at y|-;show y.imp λq y=> #[y.1,λp m t=>?_];let y:=y.2 p m t;split bN x a i m g _ _ _ (ag _ _ _ _);rw[yt,iT,a_,o.1];split bN x a i m g _ _ _ (M.G _ _);rw[iT,a_,o.2];show y
theorem Vk(w:ih sc x a i k)(E:∀Y,Y+1=k->ih sc x a i Y):∀Q g,eR Q->ec Q<=k+1->a7 (f4 x a i g λm=>ag (aH sc) (k+1) oV [⇑11,ax Q,⇑m]) (ou (k+1) Q g):=λQ g s U=>by
 obtain⟨k,rfl⟩:∃Y,k=Y+3:= #[k-3,(ie (el (ao (uo Q) U))).symm];let u:=E (k+2) j;obtain⟨z,H⟩:=Q;let d:=s.dK;let D:3<=k+2\/H=[]:=by
  obtain _|⟨e,q⟩:=H
  .show .inr j
  .show .inl (el (ao (uo e) (el (uP U e (.head _)))))
 clear s U;revert d D;show CM z H (λM M M M M m t=>bN.N _) (λq d D=>?_) (λe Y d D=>?_) λM M Q M M=>.nil (Q ..)
 ··split a7 _ (if q.kind=16 then _ else _)
   by_cases f:q.kind=16
   .rw[aL f];let fK:=d.cons.1;let h:=pb.self fK;rw[f] at h;show((u.cD q g fK (D.resolve_right (λz=>nomatch z))):a7 _ (nk (k+3) q g)).G λe y p m t=>?_;let T:=y.1;rw[f] at T;let y:=y.2 (lD p) m t;split bN x a i m g _ (ca (e.1++[.expr (.mk .dB [e.2.1])])) (.J [↑4,↑7,ax e.2.1,.J [↑16,↑1]]) (ag (aH sc) (k+3+1) oV [⇑11,.J [↑4,↑7,ax q,.J [↑16,↑1]],⇑m]);rw[m5];split bN x a i m g _ (ca e.1++[.J [↑1,.J [↑4,↑7,ax e.2.1,.J [↑16,↑1]]]]) _ _;generalize ax e.2.1=o at T y;generalize ax q=A at h y;obtain⟨C,r⟩:=h;obtain⟨n,c⟩:=T;rw[Kz,Yr];show bN.G (bN.xD (.inl #[j,j]) (y.to j)) ?_;show bN.xD (.inl #[j,j]) (bN.CO t (bN.N _))
   .rw[aS f];trivial
 ··let D:=D.resolve_right (λz=>nomatch z)
   show((u.cD e g d.cons.1 D):a7 _ (nk (k+3) e g)).G λv b=>((u.cD Y v.2.2 d.cons.2.cons.1 D):a7 _ (nk (k+3) Y v.2.2)).G λl B p m t=>?_;split bN x a i m g l.2.2 (ca (v.1++l.1++[.expr (.mk .c8 [v.2.1,l.2.1])])) (.J [↑6,↑7,ax v.2.1,ax l.2.1]) (ag (aH sc) (k+3+1) oV [⇑11,.J [↑6,↑7,ax e,ax Y],⇑m]);rw[Kz,Yq,m5,m5];show bN.G ((b.2 (lD (lD p)) m t).G ((B.2 (vb (lD p)) m t).to j)) (bN.CO t (bN.N _))
inductive we(E:V)(a4:Nat):ap->Prop
 |one:we E a4 [("sp",⇑11),("e",E),("pre",⇑a4),("code",↑31)]
 |two (u:V):we E a4 (tg E ⇑a4 ↑31 u)
theorem QL(w:ih sc x a i k):∀(b:List ah)(g:Int),fi b->a7 (λl=>cG l.1<=1000000->∀m,13<=m->∀(U:V)(h:ap->M V)(n:Int)(d:List V)(A:V)(Y:ap),we U m Y->(∀Y,we U m Y->bN x a i m l.2 n d A (h Y))->bN x a i m g n (ca l.1++d) A (cf (a5 (aH sc) k dL [3,0,0] 44) (bi b) Y h)) (qU (cq k) b g):=by
 intro q
 induction q with
 |nil=>intro g s;show λu u u u u u u u u c j=>j _ c
 |cons Q q f=>
  intro g s;show(w.eX Q g s.cons.1).G λe y=>(f e.2.2 s.cons.2).G λo H p m t U h n d A Y c j=>by
   let p:cG (e.1++.expr e.2.1::o.1)<=1000000:=p;let H:=H (ao (fE ..) (vb p)) m t U h n d A ((tg U ⇑m ↑31 (ax Q)):ap) (.two _) j;let P:=bN.push (C:=aH sc) (S:=λB=>V.J [↑1,B]) (k:=k) t (y (lD p) m t) H;split bN x a i m g n (ca (e.1++.expr e.2.1::o.1)++d) A (cf _ (ax Q::bi q) Y h);rw[m5,ez];cases c with
   |one=>have:cf (a5 (aH sc) k dL [3,0,0] 44) (ax Q::bi q) [("sp",⇑11),("e",U),("pre",⇑m),("code",↑31)] h=_:=Y5 ..;show P
   |two r=>have:cf (a5 (aH sc) k dL [3,0,0] 44) (ax Q::bi q) (tg U ⇑m ↑31 r) h=_:=Y6 ..;show P
end
variable{X:Nat->M V}
section
variable{x:cX}{o:Nat}{m:M V}
abbrev en(A v:ah):ah:=.mk .bV [A,v]
inductive z'(g:V)(w:ah):List ah->ap->Prop
 |one (p:ah) (r:List ah):z' g w (p::r) [("e",.J [↑26,↑13,g]),("whole",ax w)]
 |two (u:V) (r:List ah):z' g w r [("e",.J [↑26,↑13,g]),("whole",ax w),("part",u)]
theorem CG(g:V):∀(q:List ah)(A:ah)(Y:ap),z' g A q Y->cf (a5 C k lb [1] 47) (bi q) Y (az C k lb [1] 48)=M.N (ax (q.foldl en A))
 |_,A,_,.two a []=>YT _ _ _
 |_,A,_,.two a (v::q)=>(YS _ _ _ _ _ _).trans (CG g q (en A v) _ (.two _ q))
 |_,A,_,.one v q=>(YR _ _ _ _ _).trans (CG g q (en A v) _ (.two _ q))
def abl{T z:Option Int}(f:fI lo=I T)(o:fI dh=I z)(b:aU vs.length=L)(U:hV T z vs=I r):gy C (.J vs) lo dh=M.N (.J r):=by funext p;unfold gy M.get;rw[f,o];simp only[b,U]
theorem Xi{p:ah}{r:List ah}(z:r≠[])(c:(p::r).length<=1000):ag C (k+1) lb [ax (.mk .bV (p::r))]=M.N (ax (r.foldl en p)):=by
 let b:ax (.mk .bV (p::r))=.J [↑26,↑13,.J (ax p::bi r)]:=j;let E:(ax p::bi r).length<=4000000:=by rw[oW] at c|-;rw[iV];omega
 let a:hV (I 1) au (ax p::bi r)=I (bi r):=by rfl
 rw[b,YU,abl (Aw (Dg () ())) j (g0 E) a,a_];obtain _|⟨l,r⟩:=r
 .cases z j
 .show CG (.J (ax p::ax l::bi r)) (l::r) p _ (.one l r)
theorem RP:∀(q:List ah)(v:ah),eR v->fi q->eR (q.foldl en v):=by
 intro q
 induction q with
 |nil=>intro v s _;show s
 |cons e q w=>
  intro v s z;show have h:=fi.mk' s (fi.mk' z.cons.1 fi.nil)
   w (en v e) #[(zh _).trans h.gi,(zh _).trans h.ln,(zh _).trans h.di] z.cons.2
theorem fi.app:∀{v l:List ah},fi (v++l)->fi v/\fi l
 |[],l,s=> #[fi.nil,s]
 |Q::q,l,s=>
  let z:=(fi.cons (e:=Q) (es:=q++l) s).2.app
  #[fi.mk' (fi.cons (e:=Q) (es:=q++l) s).1 z.1,z.2]
theorem CH(z:2<dE.length):∃l T,dE=l++[T]/\∃e q,l=e::q/\q≠[]/\jS dE=[q.foldl en e,T]:=by
 obtain⟨l,T,rfl⟩:∃l T,dE=l++[T]:= #[dE.dropLast,dE.getLast (by intro Q;rw[Q] at z;cases z),(Nk _).symm];show#[l,T,j,?_]
 match l,z with
 |e::o::q,z=>show#[e,o::q,j,nofun,?_];unfold jS;rw[aL z,Nj,Mp];rfl
theorem Tg:∀v l:List ah,dQ (v++l)=(dQ v||dQ l):=by
 intro q
 induction q with
 |nil=>intro l;show j
 |cons Q q w=>intro l;show(aN (ct Q|| ·) (w l)).trans (afA ..).symm
theorem RQ:∀(q:List ah)(v:ah),ct (q.foldl en v)=(ct v||dQ q):=by
 intro q
 induction q with
 |nil=>intro v;show(D6 _).symm
 |cons e q w=>
  intro v;show(w (en v e)).trans (by
   split (ak||(ct v||(ct e||ak))||dQ q)=_;rw[afv,D6,afA];rfl)
theorem f4.end{q:eg}(z:f4 x a i c X q):f4 x a i c (λm=>(X m).G M.N) q:=λp m t=>(z p m t).end
theorem s5(H:∀m,ag (aH sc) (k+1) dL [⇑11,ax e,⇑m]=(ag (aH sc) k ey [ax e]).G λd=>(dp (aH sc) d).G λl=>match !l with
 |true=>M.N (ax e)
 |false=>X m)(s:eR e)(b:ec e<=k->ct e=L->a7 (f4 x a i c X) (cq (k+1) e c)):a7 (f4 x a i c λm=>ag (aH sc) (k+1) dL [⇑11,ax e,⇑m]) (cq (k+1) e c):=by
 by_cases U:ec e<=k
 .let y:=s.has (sc:=sc) U;rcases A:ct e with _|_
  .rw[A] at y;let g:cq (k+1) e c=I ([],e,c):=(aL U).trans (aS (by rw[A];show kA));rw[g];show λp m t=>?_;split bN x a i m c c [] _ (ag _ _ _ _);rw[H];show(y.G ?_).s4;show bX.N _
  .rw[A] at y;show(b U A).imp λq z p m t=>?_;split bN x a i m c _ _ _ (ag _ _ _ _);rw[H];show y.s4.G (z p m t)
 .let g:cq (k+1) e c=au:=aS U;rw[g];trivial
def HS(s:ma h=L):iZ h=L\/h=.ref:=by
 cases h
 case ref=>show .inr j
 case seq=>cases s
 case bO=>cases s
 case bV=>cases s
 all_goals show .inl j
theorem Bl(s:ma h=L):gd h=ak:=by
 cases h
 case cb=>cases s
 all_goals rfl
theorem SS(w:ih sc x a i k)(l:ma h=L)(s:eR (.mk h aa)):a7 (f4 x a i c λm=>ag (aH sc) (k+1) dL [⇑11,ax (.mk h aa),⇑m]) (cq (k+1) (.mk h aa) c):=by
 let o:∀i,h≠.dJ i:=λi Q=>by subst Q;cases l
 show s5 (X:=λm=>(ag (aH sc) k e2 [⇑11,ax (.mk h aa),⇑m]).G M.N) (λm=>?_) s λU A=>?_
 .obtain⟨r,f⟩:=n9 s.bF;let f:ax (.mk h aa)=.J _:=aN V.J f;rw[f];show Y9 h _ _ (HS l) (λdH Q=>by subst Q;cases l) o
 .rw[u' l U A];let A:((gd h||dQ aa)=L):=(un h aa).symm.trans A;rw[Bl l] at A;show(w.parts h aa c ((HS l).elim .inl λh=>.inr (.inl h)) (Bl l) o s.bF s.dK s.le A (uP U)).imp λd b=>b.end
theorem Xg{A l:ah}(D:∃e o,A=en e o):a7 (λb=>ec A+1<=k) (gw k .bV [A,l] c):=by
 let f:∀k c,a7 (λb=>ec A+1<=k) (cq k A c):=λk c=>a7.get.imp λb a=>Wd a;obtain _|k:=k
 .trivial
 .show a7.G (Q:=λb=>ec A+1<=k+1) ?_ λb z=>z;split a7 _ (nn _ _ (jh [A,l]) [A,l] c);obtain _|U:=jh [A,l]
  .show(f k c).G λb z=>lW z
  .show a7.G (Q:=λb=>ec A+1<=k) ?_ λb z=>a7.G (Q:=λb=>True) (a7.get.imp λb b=>trivial) λb b=>lW z;obtain⟨e,o,rfl⟩:=D;obtain _|_|k:=k
   .trivial
   .trivial
   .split a7 _ (eI (cq k (en e o) (c+1)) _);show(f k _).G λb z=>lW (lW z)
theorem Hk:∀(q:List ah)(v:ah),q≠[]->∃e o,q.foldl en v=en e o
 |[e],v,_=> #[v,e,j]
 |e::o::q,v,_=>Hk (o::q) _ nofun
def Gd(U:Int):bh C .Gt ↑U ↑2=M.N ↥(2<U):=j
theorem abu(w:ih sc x a i k)(s:eR (.mk .bV aa)):a7 (f4 x a i c λm=>ag (aH sc) (k+1) dL [⇑11,ax (.mk .bV aa),⇑m]) (cq (k+1) (.mk .bV aa) c):=by
 show s5 (X:=λm=>(e_ (.J (bi aa))).G λY=>(bh (aH sc) .Gt Y ↑2).G λ
  |true=>(ag (aH sc) k lb [ax (.mk .bV aa)]).G λab=>(ag (aH sc) k e2 [⇑11,ab,⇑m]).G M.N
  |false=>(ag (aH sc) k e2 [⇑11,ax (.mk .bV aa),⇑m]).G M.N) (λm=>Zc ..) s λU A=>?_
 rw[show cq (k+1) (.mk .bV aa) c=gw k .bV (jS aa) c from(aL U).trans (aL A)];let u:=uP U;let A:dQ aa=L:=A;let h:(e_ (.J (bi aa)):M V)=M.N ↑(aa.length:Int):=by rw[uT (by rw[iV];show ao s.le ()),iV]
 by_cases o:2<aa.length
 .obtain⟨k,rfl⟩:=xk U;let f: ↥((2:Int)<(aa.length:Int))=L:=cW (tv.mpr o);let n:=s.le;obtain⟨y,T,rfl,e,q,rfl,H,d⟩:=CH o;let D:ag (aH sc) (k+4) lb [ax (.mk .bV (e::q++[T]))]=M.N (ax ((q++[T]).foldl en e)):=Xi (p:=e) (r:=q++[T]) (λQ=>nomatch (List.append_eq_nil_iff.mp Q).2) n;rw[d];let b:=s.dK.app;let O:fi [q.foldl en e,T]:=fi.mk' (RP q e b.1.cons.1 b.1.cons.2) b.2;rw[Tg] at A;let A:dQ [q.foldl en e,T]=L:=by split (ct (q.foldl en e)||dQ [T])=L;rw[RQ];show A
  let E:=u T (mH _ (.head _));let g:=Xg (k:=k+4) (c:=c) (l:=T) (Hk q e H);show a7.get.imp λac B v m t=>?_;let P:=((w.parts .bV [q.foldl en e,T] c (.inr (.inr j)) j nofun j O (cc j) A (bg.mpr #[g.of B,bg.mpr #[E,λ_ z=>nomatch z]])).of B v m t).end;split bN x a i m c _ _ _ (M.G _ _);rw[h,a_,Gd,a_,f];split bN x a i m c _ _ _ ((ag (aH sc) (k+4) lb [ax (.mk .bV (e::q++[T]))]).G _);rw[D,a_,List.foldl_append];show P
 .let d:jS aa=aa:=aS o;let f: ↥((2:Int)<(aa.length:Int))=ak:=f8 λz=>o (tv.mp z);rw[d];show(w.parts .bV aa c (.inr (.inr j)) j nofun s.bF s.dK s.le A u).imp λq C v m t=>?_;split bN x a i m c _ _ _ (M.G _ _);rw[h,a_,Gd,a_,f];show(C v m t).end
theorem Vj(w:ih sc x a i k):∀Q g,eR Q->a7 (f4 x a i g λm=>ag (aH sc) (k+1) dL [⇑11,ax Q,⇑m]) (cq (k+1) Q g):=λQ g s=>by
 obtain⟨z,H⟩:=Q;rcases l:ma z with _|_
 .revert s;show Ci l (λn s=>?_) (λn s=>?_) (λn s=>?_) (λY s=>?_) λs=>?_
  .obtain _|⟨r,_|_⟩:=H
   .cases s.bF
   .show s5 (X:=λm=>(ag (aH sc) k "split_await" [⇑11,.J [↑30,↑n,ax r],⇑m]).G M.N) (λm=>Y_ ..) s λU A=>?_;rw[show cq (k+1) (.mk (.cb n) [r]) g=pK k n r g from(aL U).trans (aL A)];show(w.jz n r g s.dK.cons.1).imp λ_ d=>d.end
   .cases s.bF
  .obtain _|⟨B,b⟩:=H
   .cases s.bF
   .show s5 (X:=λm=>cf (a5 (aH sc) k dL [3,0,0] 44) (bi b) [("sp",⇑11),("e",.J [↑31,↑n,.J (bi b),ax B]),("pre",⇑m),("code",↑31)] (az (aH sc) k dL [3,0,0] 45)) (λm=>Za ..) s λU A=>?_;rw[show cq (k+1) (.mk (.seq n) (B::b)) g=eI (qU (cq k) b g) λ(v,O)=>eI (cq k B O) λ(T,E,h)=>I (v++T,E,h) from(aL U).trans (aL A)];show(QL w b g s.dK.cons.2).G λe f=>(w.eX B e.2 s.dK.cons.1).G λo y p m t=>?_;split bN x a i m g o.2.2 (ca (e.1++o.1)) (ax o.2.1) _;rw[m5];show f (lD p) m t _ _ _ _ _ _ .one λC c=>?_;let y:=(y (vb p) m t).end;cases c with
    |one=>show y
    |two V=>show y
  .obtain _|⟨r,_|⟨D,_|⟨q,_|_⟩⟩⟩:=H
   .cases s.bF
   .cases s.bF
   .cases s.bF
   .show s5 (X:=λm=>(ag (aH sc) k "split_choice" [⇑11,.J [↑17,↑n,ax r,ax D,ax q],⇑m]).G M.N) (λm=>Y' ..) s λU A=>?_;rw[show cq (k+1) (.mk (.bO n) [r,D,q]) g=pL k n r D q g from(aL U).trans (aL A)];let u:=uP U;show(w.ch n r D q g s.dK (u _ (.tail _ (.head _))) (u _ (.tail _ (.tail _ (.head _))))).imp λ_ d=>d.end
   .cases s.bF
  .obtain _|⟨B,_|_⟩:=H
   .cases s.bF
   .show s5 (X:=λm=>(ag (aH sc) k "fix_target" [⇑11,.J [↑2,↑7,↑Y],⇑m]).G λr=>(ag (aH sc) k dL [⇑11,ax B,⇑m]).G λa=>M.N (.J [↑22,↑7,r,a])) (λm=>Zb ..) s λU A=>?_;rw[show cq (k+1) (.mk (.dJ Y) [B]) g=if 2<=k then eI (cq k B g) λ(v,E,O)=>I (v,.mk (.dJ Y) [E],O) else au from(aL U).trans (aL A)];obtain⟨k,rfl⟩:=xk U;rw[aL (fE ..)];show(w.eX B g s.dK.cons.1).G λo y p m t=>?_;split bN x a i m g o.2.2 (ca o.1) (.J [↑22,↑7,.J [↑2,↑7,↑Y],ax o.2.1]) (M.G _ _);rw[Ys,a_];show(y p m t).to j
   .cases s.bF
  .show abu w s
 .show SS w l s
def I9(z:ih sc x a i k)(f:∀Y,Y+1=k->ih sc x a i Y):ih sc x a i (k+1):= #[Vj z,Ve z,Vf z,Vi z,Vg z,Vh z,Vk z f]
theorem xP(C:List Int)(u:cX)(E i:Int):∀p,ih C u E i p/\ih C u E i (p+1)
 |0=> #[I_,I9 I_ λY z=>by omega]
 |p+1=> #[(xP C u E i p).2,I9 (xP C u E i p).2 λY z=>by show(xP C u E i Y).1]
def aby(l:cq k e c=I (p,cn,aF))(s:eR e)(b:cG p<=1000000)(t:13<=a4):bN x a i a4 c aF (ca p) (ax cn) (ag (aH sc) k dL [⇑11,ax e,⇑a4]):=((xP sc x a i k).1.eX e c s).of l b a4 t
end
section
variable{W:Nat}
abbrev dD(C:List O)(W:Nat)(x:Str):M V:=aJ C ⇑W (.str x)
theorem adc(a:V):ag C (k+1) "_law_note" [⇑W,a]=(dD C W "log").G λT=>(e_ T).G λU=>(bh C .GtE U ↑14).G λ
 |true=>(dd C ⇑W (.str "stop") ↑1).G λb=>M.raise
 |false=>(dD C W "log").G λT=>et C k T c9 [a] λb=>M.N .none:=by
 ac_rfl
def adG(g:V):ag C (k+1) "_law_throw" [⇑W,g]=(dd C ⇑W (.str "fault") g).G λa=>M.raise:=by ac_rfl
def ade(a:V):ag C (k+1) "_law_put" [⇑W,a]=(dD C W ia).G λT=>et C k T c9 [a] λb=>(dD C W ia).G λT=>(e_ T).G λU=>(bQ C .Sub U ↑1).G M.N:=by ac_rfl
def k8(C:List O)(l:V)(i:Int)(B:V)(h:M V):M V:=(aJ C l ↑i).G λo=>(dd C o ↑0 B).G λa=>h
def getL(C:List O)(l:V)(i:Int)(h:V->M V):M V:=(aJ C l ↑i).G λo=>(aJ C o ↑0).G h
def cg(C:List O)(k:Nat)(f:Str)(a:List Nat)(U:Nat)(Y:ap)(c:ap->M V):M V:=match aT f eG with
 |some r=>match sA a r.d.body with
  |some s=>uf (n6 C k f) U [] s Y c M.N
  |none=>M.ab
 |none=>M.ab
def ady(U:V)(c:ap->M V):cg C k ej [0] 49 [("w",⇑W)] c=(dD C W "log").G λT=>(e_ T).G λU=>c [("w",⇑W),("many",U)]:= #[]
def adz(U:V)(c:ap->M V):cg C k ej [1] 48 [("w",⇑W),("many",U)] c=(dD C W "lids").G λT=>c (g8 ⇑W U T):= #[]
def n5(C:List O)(W:Nat)(a:Int)(h:M V):M V:=(dD C W ia).G λt=>(aJ C t ↑a).G λo=>(aJ C o ↑1).G λv=>(bQ C .Add v ↑1).G λv=>(dD C W ia).G λt=>(aJ C t ↑a).G λo=>(dd C o ↑1 v).G λb=>h
def adA(U T:V)(c:ap->M V):cg C k ej [11] 38 (g8 ⇑W U T) c=n5 C W 1 (n5 C W 2 (n5 C W 3 (n5 C W 4 (c [("w",⇑W),("many",U),("lids",T),("place",↑4)])))):= #[]
def adX(U T a:V):az C k ej [11] 38 [("w",⇑W),("many",U),("lids",T),("place",a)]=M.N .none:= #[]
def adB:ag C (k+1) ej [⇑W]=cg C k ej [0] 49 [("w",⇑W)] (az C k ej [0] 49):=by ac_rfl
def adC(Y:ap):az C k ej [0] 49 Y=cg C k ej [1] 48 Y (az C k ej [1] 48):= #[]
def adD(Y:ap):az C k ej [10] 39 Y=cg C k ej [11] 38 Y (az C k ej [11] 38):= #[]
def adM:ag C (k+1) ej [⇑W]=(dD C W "log").G λT=>(e_ T).G λU=>(dD C W "lids").G λT=>az C k ej [1] 48 (g8 ⇑W U T):=by rw[adB,ady .none];show aN (M.G _) (funext λT=>aN (M.G _) (funext λU=>?_));rw[adC,adz U]
def adN(U T:V):az C k ej [1] 48 (g8 ⇑W U T)=getL C T 1 λB=>(bQ C .Add B ↑1).G λB=>k8 C T 1 B (az C k ej [2] 47 (g8 ⇑W U T)):= #[]
def adP(U T:V):az C k ej [2] 47 (g8 ⇑W U T)=(bQ C .Mod U ↑3).G λB=>k8 C T 2 B (az C k ej [3] 46 (g8 ⇑W U T)):= #[]
def adQ(U T:V):az C k ej [3] 46 (g8 ⇑W U T)=getL C T 3 λB=>(aJ C B ↑0).G λB=>(bQ C .Add B ↑2).G λB=>k8 C T 3 (.J [B,U]) (az C k ej [4] 45 (g8 ⇑W U T)):= #[]
def adR(U T:V):az C k ej [4] 45 (g8 ⇑W U T)=(bQ C .Mod U ↑4).G λY=>(aJ C (.J [↑1,↑2,↑2,↑0]) Y).G λB=>k8 C T 4 B (az C k ej [5] 44 (g8 ⇑W U T)):= #[]
def adS(U T:V):az C k ej [5] 44 (g8 ⇑W U T)=(bQ C .Mod U ↑2).G λY=>(bQ C .Add ↑3 Y).G λB=>k8 C T 5 B (az C k ej [6] 43 (g8 ⇑W U T)):= #[]
def adT(U T:V):az C k ej [6] 43 (g8 ⇑W U T)=(bQ C .Mod U ↑2).G λY=>(aJ C (.J [.J [↑0,↑0],.J [↑1,U]]) Y).G λB=>k8 C T 6 B (az C k ej [7] 42 (g8 ⇑W U T)):= #[]
def adU(U T:V):az C k ej [7] 42 (g8 ⇑W U T)=(bQ C .Mod U ↑4).G λY=>(aJ C (.J [↑5,↑1,↑6,↑0]) Y).G λB=>k8 C T 7 B (az C k ej [8] 41 (g8 ⇑W U T)):= #[]
def adV(U T:V):az C k ej [8] 41 (g8 ⇑W U T)=(bQ C .Mod U ↑3).G λY=>(aJ C (.J [.str "x",.str "y",.none]) Y).G λB=>k8 C T 8 B (az C k ej [9] 40 (g8 ⇑W U T)):= #[]
def adW(U T:V):az C k ej [9] 40 (g8 ⇑W U T)=(dD C W "this").G λB=>(aJ C B ↑0).G λB=>(bQ C .Add B ↑4).G λB=>(dd C ⇑W (.str "this") (.J [B,U])).G λa=>az C k ej [10] 39 (g8 ⇑W U T):= #[]
def adO(U T:V):az C k ej [10] 39 (g8 ⇑W U T)=n5 C W 1 (n5 C W 2 (n5 C W 3 (n5 C W 4 (M.N .none)))):=by rw[adD,adA,adX]
def kr(C:List O)(W:Nat)(x:Str)(h:V->M V):M V:=(dD C W "g").G λg=>(aJ C g (.str x)).G h
def aV(C:List O)(c B:V)(a b:M V):M V:=(bh C .Eq c B).G λ
 |true=>a
 |false=>b
def n2(C:List O)(U:V)(l:List V):M V:=(bQ C .Mod U ↑l.length).G λav=>(aJ C (.J l) av).G M.N
def acG(n U:V):ag C (k+1) "_law_answer" [⇑W,n,U]=aV C n ↑7 (n2 C U [↑0,↑1,↑0,↑2,↑(-1)]) (aV C n ↑1 ((bQ C .Mod U ↑2).G M.N) (aV C n ↑13 (n2 C U [.str "p",.str "q",.none]) (aV C n ↑12 (n2 C U [↑5,↑1,↑0,↑6])
 (kr C W "c" λg=>aV C n g (n2 C U [↑1,↑2,↑0,↑1]) (kr C W "s" λg=>aV C n g ((bQ C .Add U ↑1).G λm=>M.N (.J [U,m])) (kr C W "a" λg=>aV C n g (n2 C U [↑3,↑4,↑3,↑0]) (n2 C U [.J [↑0,↑0],.J [↑1,U]]))))))):=by
 ac_rfl
theorem adY(r:V):ag C (k+1) "_law_waited" [⇑W,r]=(ag C k "_law_note" [⇑W,.J [.str "await",r]]).G λa=>(ag C k ej [⇑W]).G λa=>(dD C W "log").G λT=>(e_ T).G λU=>(bQ C .Mod U ↑7).G λY=>(bh C .Eq Y ↑6).G λ
 |true=>(ag C k "_law_throw" [⇑W,↑4]).G λa=>(dD C W "log").G λT=>(e_ T).G M.N
 |false=>(dD C W "log").G λT=>(e_ T).G M.N:=by
 ac_rfl
end
section
variable{W:Nat}
abbrev hl(C:List O)(k W:Nat)(g:Int)(h:M V):M V:=(ag C k "_law_throw" [⇑W,↑g]).G λa=>h
def adx(r:V)(i:V):ag C (k+1) ib [⇑W,.J [↑2,r,i]]=(dD C W "lids").G λT=>(aJ C T i).G λd=>M.N (.J [d,↑0]):=by ac_rfl
abbrev ml(W:Nat)(Q U a:V):ap:=[("w",⇑W),("e",Q),("number",U),("at",a)]
def L'(r E m:V):ag C (k+1) ib [⇑W,.J [↑4,r,E,m]]=(ag C k cj [⇑W,E]).G λU=>az C k ib [2] 47 (ml W (.J [↑4,r,E,m]) U ↑1):=by ac_rfl
def L_(r E Y:V):ag C (k+1) ib [⇑W,.J [↑6,r,E,Y]]=(ag C k cj [⇑W,E]).G λU=>(ag C k cj [⇑W,Y]).G λy=>(bQ C .Add ↑1 y).G λv=>az C k ib [2] 47 (ml W (.J [↑6,r,E,Y]) U v):=by ac_rfl
def adv(Q U E:V):az C k ib [2] 47 (ml W Q U E)=aV C U ↑0 (hl C k W 1 (az C k ib [3] 46 (ml W Q U E))) (az C k ib [3] 46 (ml W Q U E)):= #[]
theorem adw(Q U E:V):az C k ib [3] 46 (ml W Q U E)=(bh C .Lt E ↑1).G λl=>match l with
 |true=>hl C k W 2 (az C k ib [4] 45 (ml W Q U E))
 |false=>(dD C W ia).G λr=>(aJ C r U).G λq=>(e_ q).G λT=>(bh C .GtE E T).G λ
  |true=>hl C k W 2 (az C k ib [4] 45 (ml W Q U E))
  |false=>az C k ib [4] 45 (ml W Q U E):= #[]
abbrev uZ(W:Nat)(l m B:V)(o:Nat):ap:=[("w",⇑W),("word",l),("mref",m),("rows",B),("args",⇑o)]
abbrev sG(W:Nat)(l m B:V)(o:Nat)(Q:V):ap:=[("w",⇑W),("word",l),("mref",m),("rows",B),("args",⇑o),("e",Q)]
def adg(l m:V)(N:List V):ag C (k+1) gk [⇑W,l,m,.J N]=(M.new (.list [])).G λd=>cf (a5 C k gk [1] 47) N (uZ W l m (.J N) d) (az C k gk [1] 48):=by ac_rfl
def hc(C:List O)(k:Nat)(o:V)(l:hN)(B:V)(h:M V):M V:=(k1 #[C,[],ag C k,λa=>ak,ak,#[.function,[],ak,ak,[]]] o l [B]).G λa=>h
def vy(C:List O)(k W o:Nat)(g:Int)(q:List V)(h:M V):M V:=(e' C ⇑o c9).G λl=>(bh C .Eq ↑g ↑33).G λ
 |true=>(aJ C (.J (↑g::q)) ↑2).G λp=>(ag C k ib [⇑W,p]).G λv=>hc C k ⇑o l v h
 |false=>(ag C k cj [⇑W,.J (↑g::q)]).G λv=>hc C k ⇑o l v h
def adk(l m B:V)(d:Nat)(g:Int)(q:List V)(c:ap->M V):a5 C k gk [1] 47 (.J (↑g::q)) (uZ W l m B d) c=vy C k W d g q (c (sG W l m B d (.J (↑g::q)))):= #[]
def adl(l m B a:V)(d:Nat)(g:Int)(q:List V)(c:ap->M V):a5 C k gk [1] 47 (.J (↑g::q)) (sG W l m B d a) c=vy C k W d g q (c (sG W l m B d (.J (↑g::q)))):= #[]
abbrev B3(W:Nat)(l m B:V)(o:Nat)(Q:V)(r:Nat):ap:=[("w",⇑W),("word",l),("mref",m),("rows",B),("args",⇑o),("e",Q),("told",⇑r)]
abbrev mm(W:Nat)(l m B:V)(o:Nat)(Q:V)(r:Nat)(a:V):ap:=[("w",⇑W),("word",l),("mref",m),("rows",B),("args",⇑o),("e",Q),("told",⇑r),("at",a)]
def adi(l m Q:V)(N:List V)(d:Nat):az C k gk [1] 48 (sG W l m (.J N) d Q)=(M.new (.list [])).G λr=>(e_ (.J N)).G λU=>(eW U).G λT=>cf (a5 C k gk [3] 45) T (B3 W l m (.J N) d Q r) (az C k gk [3] 46):= #[]
def s1(C:List O)(k o r:Nat)(N:List V)(Y:V)(h:M V):M V:=(e' C ⇑r c9).G λl=>(aJ C (.J N) Y).G λe=>(aJ C e ↑0).G λc=>(bh C .Eq c ↑33).G λ
 |true=>(aJ C ⇑o Y).G λs=>(aJ C s ↑0).G λp=>(aJ C ⇑o Y).G λs=>(aJ C s ↑1).G λi=>(aJ C p i).G λv=>hc C k ⇑r l v h
 |false=>(aJ C ⇑o Y).G λv=>hc C k ⇑r l v h
def adm(l m Q Y:V)(N:List V)(d r:Nat)(c:ap->M V):a5 C k gk [3] 45 Y (B3 W l m (.J N) d Q r) c=s1 C k d r N Y (c (mm W l m (.J N) d Q r Y)):= #[]
def adn(l m Q Y a:V)(N:List V)(d r:Nat)(c:ap->M V):a5 C k gk [3] 45 Y (mm W l m (.J N) d Q r a) c=s1 C k d r N Y (c (mm W l m (.J N) d Q r Y)):= #[]
def adj(l Q a t x w:V)(N:List V)(d r:Nat):az C k gk [3] 46 (mm W l (.J [t,x,w]) (.J N) d Q r a)=(ag C k "_law_note" [⇑W,.J [l,x,⇑r]]).G λb=>(e_ (.J N)).G λU=>(eW U).G λT=>cf (a5 C k gk [5] 43) T (mm W l (.J [t,x,w]) (.J N) d Q r a) (az C k gk [5] 44):= #[]
def q8(C:List O)(o:Nat)(N:List V)(Y:V)(h:M V):M V:=(aJ C (.J N) Y).G λe=>(aJ C e ↑0).G λc=>(bh C .Eq c ↑33).G λ
 |true=>(aJ C ⇑o Y).G λs=>(aJ C s ↑0).G λp=>(aJ C ⇑o Y).G λs=>(aJ C s ↑1).G λi=>(aJ C p i).G λv=>(bQ C .Add v ↑500).G λv=>(aJ C ⇑o Y).G λs=>(aJ C s ↑0).G λp=>(aJ C ⇑o Y).G λs=>(aJ C s ↑1).G λi=>(dd C p i v).G λa=>h
 |false=>h
def ado(l m Q Y a:V)(N:List V)(d r:Nat)(c:ap->M V):a5 C k gk [5] 43 Y (mm W l m (.J N) d Q r a) c=q8 C d N Y (c (mm W l m (.J N) d Q r Y)):= #[]
def yH(C:List O)(k W:Nat)(x:V):M V:=(dD C W "log").G λl=>(e_ l).G λn=>(bQ C .Add n x).G M.N
theorem adh(l t x w:V)(d:Nat):az C k gk [1] 48 (uZ W l (.J [t,x,w]) (.J []) d)=(M.new (.list [])).G λr=>(ag C k "_law_note" [⇑W,.J [l,x,⇑r]]).G λa=>(bQ C .Mod x ↑9).G λq=>(bh C .Eq q ↑8).G λ
 |true=>hl C k W 3 (yH C k W x)
 |false=>yH C k W x:= #[]
def adf(A E y:V):ag C (k+1) "_law_reckon" [⇑W,A,E,y]=aV C A (.str "+") ((bQ C .Add E y).G M.N) (aV C A (.str "-") ((bQ C .Sub E y).G M.N) (aV C A (.str "<") ((bh C .Lt E y).G λ|true=>M.N ↑1|false=>M.N ↑0) (aV C A (.str "==") (aV C E y (M.N ↑1) (M.N ↑0))
 (aV C y ↑0 (hl C k W 5 ((bQ C .FloorDiv E y).G M.N)) ((bQ C .FloorDiv E y).G M.N))))):=by
 ac_rfl
def I3(C:List O)(k W:Nat)(A a b:V):M V:=(aJ C a ↑1).G λx=>(aJ C b ↑1).G λy=>(ag C k "_law_reckon" [⇑W,A,x,y]).G λn=>aV C A (.str "<") (M.N n) (M.N (.J [↑1,n]))
def ac3(A E y:V):ag C (k+1) "_law_lifted" [⇑W,A,E,y]=aV C A (.str "==") (aV C E y (M.N ↑1) (M.N ↑0)) ((aJ C E ↑0).G λu=>aV C u ↑0 (aV C A (.str "<") (M.N ↑0) (M.N (.J [↑0,↑0]))) ((aJ C y ↑0).G λe=>aV C e ↑0 (aV C A (.str "<") (M.N ↑0) (M.N (.J [↑0,↑0]))) (I3 C k W A E y))):=by ac_rfl
def q6(C:List O)(k W:Nat)(a:List V):M V:=(M.new (.list a)).G λr=>(ag C k "_law_put" [⇑W,⇑r]).G M.N
theorem L7(n B:V):ag C (k+1) "_law_boxed" [⇑W,n,B]=kr C W "q" λg=>aV C n g ((aJ C B ↑0).G λu=>(dp C u).G λ
 |true=>(aJ C B ↑1).G λe=>(ag C k "_law_boxed" [⇑W,↑7,e]).G M.N
 |false=>M.N ↑0) (kr C W "s" λg=>aV C n g (q6 C k W [.str "s",B]) (q6 C k W [.str "n",B])):=by
 ac_rfl
def acK(n g a m B:V)(q:List V):ag C (k+1) nz [⇑W,.J [↑19,n,.J (g::a::q),↑4,m],B]=(ag C k "_law_boxed" [⇑W,a,B]).G M.N:=by ac_rfl
def acM(n E m B:V):ag C (k+1) nz [⇑W,.J [↑19,n,E,↑6,m],B]=M.N (.J [↑1,B]):= #[]
def acN(n E m B:V):ag C (k+1) nz [⇑W,.J [↑19,n,E,↑7,m],B]=(aJ C B ↑0).G λu=>aV C u ↑0 (hl C k W 8 ((aJ C B ↑1).G M.N)) ((aJ C B ↑1).G M.N):=by ac_rfl
def acH(n E m B:V):ag C (k+1) nz [⇑W,.J [↑19,n,E,↑1,m],B]=M.N B:= #[]
def acI(n E m B:V):ag C (k+1) nz [⇑W,.J [↑19,n,E,↑2,m],B]=M.N B:= #[]
def yZ(C:List O)(k W:Nat)(n B:V):M V:=(dD C W ia).G λt=>(aJ C t B).G λr=>(aJ C r ↑0).G λA=>kr C W "s" λc=>aV C n c
 ((bh C .NotEq A (.str "s")).G λ|true=>hl C k W 7 ((aJ C r ↑1).G M.N)|false=>(aJ C r ↑1).G M.N)
 ((bh C .NotEq A (.str "n")).G λ|true=>hl C k W 7 ((aJ C r ↑1).G M.N)|false=>(aJ C r ↑1).G M.N)
def acL(n E m B:V):ag C (k+1) nz [⇑W,.J [↑19,n,E,↑5,m],B]=aV C B ↑0 (hl C k W 1 (yZ C k W n B)) (yZ C k W n B):=by ac_rfl
theorem acJ(n E m B:V):ag C (k+1) nz [⇑W,.J [↑19,n,E,↑3,m],B]=(bh C .NotEq B ↑0).G λl=>match l with
 |true=>(dD C W ia).G λr=>(aJ C r B).G λq=>(aJ C q ↑0).G λA=>(bh C .NotEq A (.str "c")).G λ
  |true=>hl C k W 7 (M.N B)
  |false=>M.N B
 |false=>M.N B:=by
 ac_rfl
end
section
variable{W:Nat}
def Mb(C:List O)(k:Nat)(f:Str)(a:List Nat)(v:V)(Y:ap)(c:ap->M V):M V:=match aT f eG with
 |some r=>match(sA a r.d.body).map rg with
  |some (.asg [t])=>(M.opt (hd [] (n6 C k f).sc t v Y)).G c
  |_=>M.ab
 |none=>M.ab
def adt(r U:V):ag C (k+1) oT [⇑W,.J [↑91,r,U]]=cg C k oT [0] 49 [("w",⇑W),("e",.J [↑91,r,U])] (az C k oT [0] 49):=by ac_rfl
def adu(r U:V)(c:ap->M V):cg C k oT [0] 49 [("w",⇑W),("e",.J [↑91,r,U])] c=(dD C W "held").G λz=>(aJ C z U).G λv=>Mb C k oT [0] v [("w",⇑W),("e",.J [↑91,r,U])] c:= #[]
def L8(r U u e:V)(c:ap->M V):Mb C k oT [0] (.J [u,e]) [("w",⇑W),("e",.J [↑91,r,U])] c=c [("w",⇑W),("e",.J [↑91,r,U]),("k",u),("value",e)]:= #[]
def De(C:List O)(W:Nat)(U:V):M V:=(dD C W "held").G λh=>(aJ C h U).G λp=>(aJ C p ↑1).G M.N
theorem L9(r U u e:V):az C k oT [0] 49 [("w",⇑W),("e",.J [↑91,r,U]),("k",u),("value",e)]=(bh C .Lt u ↑0).G λl=>match l with
 |true=>(ag C k "_law_answer" [⇑W,r,e]).G λB=>(dD C W "held").G λz=>(dd C z U (.J [r,B])).G λa=>De C W U
 |false=>(bh C .NotEq u r).G λ
  |true=>(dd C ⇑W (.str "strange") ↑1).G λa=>De C W U
  |false=>De C W U:= #[]
def acS(r B:V):ag C (k+1) cj [⇑W,.J [↑1,r,B]]=M.N B:= #[]
def acY(r i:V):ag C (k+1) cj [⇑W,.J [↑2,r,i]]=(dD C W "lids").G λT=>(aJ C T i).G λd=>(aJ C d ↑0).G M.N:=by ac_rfl
def ac1(r U:V):ag C (k+1) cj [⇑W,.J [↑91,r,U]]=(ag C k oT [⇑W,.J [↑91,r,U]]).G M.N:=by ac_rfl
def ac2(r:V):ag C (k+1) cj [⇑W,.J [↑3,r]]=kr C W "c" λg=>aV C r g (M.N ↑1) ((dD C W "this").G M.N):=by ac_rfl
def acO(r E:V):ag C (k+1) cj [⇑W,.J [↑30,r,E]]=(ag C k cj [⇑W,E]).G λB=>(ag C k "_law_waited" [⇑W,B]).G λU=>(ag C k "_law_answer" [⇑W,r,U]).G M.N:=by ac_rfl
def acQ(r u m q e:V):ag C (k+1) cj [⇑W,.J [↑8,r,u,m,q,e]]=(ag C k gk [⇑W,.str "call",m,q]).G λU=>(ag C k "_law_answer" [⇑W,r,U]).G M.N:=by ac_rfl
def acP(r A E y e:V):ag C (k+1) cj [⇑W,.J [↑14,r,A,E,y,e]]=(ag C k cj [⇑W,E]).G λa=>(ag C k cj [⇑W,y]).G λB=>(ag C k "_law_reckon" [⇑W,A,a,B]).G M.N:=by ac_rfl
def yP(C:List O)(k W:Nat)(Q:V):M V:=(ag C k ib [⇑W,Q]).G λs=>(aJ C s ↑0).G λo=>(aJ C s ↑1).G λi=>(aJ C o i).G M.N
def acU(r E y:V):ag C (k+1) cj [⇑W,.J [↑6,r,E,y]]=yP C k W (.J [↑6,r,E,y]):=by ac_rfl
def acV(r E m:V):ag C (k+1) cj [⇑W,.J [↑4,r,E,m]]=yP C k W (.J [↑4,r,E,m]):=by ac_rfl
def acR(r g E y:V):ag C (k+1) cj [⇑W,.J [↑17,r,g,E,y]]=(ag C k cj [⇑W,g]).G λB=>aV C B ↑1 ((ag C k cj [⇑W,E]).G M.N) ((ag C k cj [⇑W,y]).G M.N):=by ac_rfl
abbrev uW(W:Nat)(Q:V)(g:Int):ap:=[("w",⇑W),("e",Q),("code",↑g)]
def ac0(r B:V)(b:List V):ag C (k+1) cj [⇑W,.J [↑31,r,.J b,B]]=cf (a5 C k cj [10,0,0] 37) b (uW W (.J [↑31,r,.J b,B]) 31) (az C k cj [10,0,0] 38):=by ac_rfl
def adp(Q B:V)(c:ap->M V):a5 C k cj [10,0,0] 37 B (uW W Q 31) c=(ag C k cj [⇑W,B]).G λa=>c (rp ⇑W Q ↑31 B):= #[]
def adq(Q B a:V)(c:ap->M V):a5 C k cj [10,0,0] 37 B (rp ⇑W Q ↑31 a) c=(ag C k cj [⇑W,B]).G λb=>c (rp ⇑W Q ↑31 B):= #[]
def adr(r b B:V):az C k cj [10,0,0] 38 (uW W (.J [↑31,r,b,B]) 31)=(ag C k cj [⇑W,B]).G M.N:= #[]
def ads(r b B a:V):az C k cj [10,0,0] 38 (rp ⇑W (.J [↑31,r,b,B]) ↑31 a)=(ag C k cj [⇑W,B]).G M.N:= #[]
def acW(r A E y u e:V):ag C (k+1) cj [⇑W,.J [↑27,r,A,E,y,u,e]]=(ag C k cj [⇑W,E]).G λa=>(ag C k cj [⇑W,y]).G λB=>(ag C k "_law_lifted" [⇑W,A,a,B]).G M.N:=by ac_rfl
theorem acX(r A E u:V):ag C (k+1) cj [⇑W,.J [↑28,r,A,E,u]]=(ag C k cj [⇑W,E]).G λB=>(aJ C B ↑0).G λu=>(dp C u).G λ
 |true=>(aJ C B ↑1).G λ
  | ↑i=>M.N (.J [↑1,↑(-i)])
  |_=>M.ab
 |false=>M.N B:=by
 ac_rfl
def acT(r E m:V)(A:Int):ag C (k+1) cj [⇑W,.J [↑19,r,E,↑A,m]]=aV C ↑A ↑8 (M.N (.J [↑0,↑0])) ((ag C k cj [⇑W,E]).G λB=>(ag C k nz [⇑W,.J [↑19,r,E,↑A,m],B]).G M.N):=by ac_rfl
theorem acZ(g:Int)(q:List V)(z:g=9\/g=10\/g=11\/g=7\/g=25\/g=21\/g=20\/g=22\/g=26):ag C (k+1) cj [⇑W,.J (↑g::q)]=(ag C k gQ [⇑W,.J (↑g::q)]).G M.N:=by show C2 ?_;obtain rfl|rfl|rfl|rfl|rfl|rfl|rfl|rfl|rfl:=z<;>rfl'
def ac'(r t x w q:V):ag C (k+1) gQ [⇑W,.J [↑9,r,.J [t,x,w],q]]=(ag C k gk [⇑W,.str "new",.J [t,x,w],q]).G λU=>kr C W "c" λg=>aV C r g (q6 C k W [.str "c",U]) (M.N (.J [U,x])):=by ac_rfl
def wD(C:List O)(k W:Nat)(q:Nat)(B:V):M V:=(bQ C .Add ⇑q B).G λB=>(ag C k "_law_put" [⇑W,B]).G M.N
def x2(C:List O)(k W:Nat)(B:V):M V:=(M.new (.list [.str "a"])).G λr=>(M.new (.list [↑0])).G λo=>(bQ C .Mult ⇑o B).G λy=>wD C k W r y
theorem ada(r E:V):ag C (k+1) gQ [⇑W,.J [↑10,r,E]]=(ag C k cj [⇑W,E]).G λB=>(bh C .Lt B ↑0).G λl=>match l with
 |true=>hl C k W 6 (x2 C k W B)
 |false=>(bh C .Gt B ↑9).G λ
  |true=>hl C k W 6 (x2 C k W B)
  |false=>x2 C k W B:=by
 ac_rfl
theorem ac4(r:V)(b:List V):ag C (k+1) gQ [⇑W,.J [↑11,r,.J b]]=(M.new (.list [.str "a"])).G λq=>(nu (.J b)).G λf=>s6 (λB h=>(ag C k cj [⇑W,B]).G h) (λO=>match aU O.length with
 |true=>(M.new (.list O)).G λi=>wD C k W q ⇑i
 |false=>M.ab) f:=by
 ac_rfl
def IX(C:List O)(W:Nat)(U:V):M V:=(dD C W ia).G λt=>(aJ C t U).G λr=>(e_ r).G λl=>(bQ C .Sub l ↑1).G M.N
def ac_(r E:V):ag C (k+1) gQ [⇑W,.J [↑7,r,E]]=(ag C k cj [⇑W,E]).G λU=>aV C U ↑0 (hl C k W 1 (IX C W U)) (IX C W U):=by ac_rfl
def ac8(r t x w u:V):ag C (k+1) gQ [⇑W,.J [↑25,r,.none,.J [t,x,w],u]]=q6 C k W [.str "f",↑(-1),x]:=by ac_rfl
def ac7(r t x w u:V)(E:List V):ag C (k+1) gQ [⇑W,.J [↑25,r,.J E,.J [t,x,w],u]]=(ag C k cj [⇑W,.J E]).G λU=>aV C U ↑0 (hl C k W 1 (q6 C k W [.str "f",U,x])) (q6 C k W [.str "f",U,x]):=by ac_rfl
def yD(C:List O)(W:Nat)(U:V)(h:V->M V):M V:=(bh C .NotEq U ↑0).G λb=>match b with
 |true=>(dD C W ia).G λt=>(aJ C t U).G λr=>(aJ C r ↑0).G λA=>(bh C .Eq A (.str "c")).G λb=>h (.bool b)
 |false=>h (.bool b)
theorem ac5(r E:V):ag C (k+1) gQ [⇑W,.J [↑21,r,E]]=(ag C k cj [⇑W,E]).G λU=>yD C W U λq=>(dp C q).G λ
 |true=>M.N U
 |false=>M.N ↑0:=by
 ac_rfl
theorem ac9(r E u:V)(i:Int):ag C (k+1) gQ [⇑W,.J [↑20,r,E,u,↑i]]=(ag C k cj [⇑W,E]).G λU=>yD C W U λq=>(dp C q).G λy=>match y with
 |true=>(dp C ↑i).G λy=>match y with
  |true=>(dD C W "lids").G λT=>(aJ C T ↑i).G λd=>(dd C d ↑0 U).G λa=>(dp C q).G λy=>match y with
   |true=>M.N ↑1
   |false=>M.N ↑0
  |false=>(dp C q).G λy=>match y with
   |true=>M.N ↑1
   |false=>M.N ↑0
 |false=>(dp C q).G λ
  |true=>M.N ↑1
  |false=>M.N ↑0:=by
 ac_rfl
def ac6(r c a i E:V):ag C (k+1) gQ [⇑W,.J [↑22,r,.J [c,a,i],E]]=(ag C k cj [⇑W,E]).G λB=>(dD C W "lids").G λT=>(aJ C T i).G λd=>(dd C d ↑0 B).G λb=>M.N B:=by ac_rfl
def adb(r:V)(b:List V):ag C (k+1) gQ [⇑W,.J [↑26,r,.J b]]=cf (a5 C k gQ [9] 39) b [("w",⇑W),("e",.J [↑26,r,.J b]),("code",↑26),("text",.str "")] (az C k gQ [9] 40):=by ac_rfl
abbrev Ja(W:Nat)(Q r:V):ap:=[("w",⇑W),("e",Q),("code",↑26),("text",r)]
abbrev u0(W:Nat)(Q r v B:V):ap:=[("w",⇑W),("e",Q),("code",↑26),("text",r),("part",v),("value",B)]
def yh(C:List O)(B:V)(h:V->M V):M V:=(dp C B).G λ
 |true=>h B
 |false=>h (.str "")
def Dw(C:List O)(k W:Nat)(r g n:V)(q:List V)(h:V->V->M V):M V:=(ag C k cj [⇑W,.J (g::n::q)]).G λv=>aV C n ↑12
 ((dD C W ia).G λe=>(aJ C e v).G λa=>(aJ C a ↑1).G λx=>(rf x).G λs=>yh C s λu=>(bQ C .Add r u).G λU=>h U s)
 (yh C v λu=>(bQ C .Add r u).G λU=>h U v)
def adE(Q r g n:V)(q:List V)(c:ap->M V):a5 C k gQ [9] 39 (.J (g::n::q)) (Ja W Q r) c=Dw C k W r g n q λU B=>c (u0 W Q U (.J (g::n::q)) B):= #[]
def adF(Q r g n v a:V)(q:List V)(c:ap->M V):a5 C k gQ [9] 39 (.J (g::n::q)) (u0 W Q r v a) c=Dw C k W r g n q λU B=>c (u0 W Q U (.J (g::n::q)) B):= #[]
def ad_(D:V):ag C (k+1) fB [⇑W,.J [↑93,D]]=(ag C k fB [⇑W,D]).G λa=>M.N .none:=by ac_rfl
def ad5(Q:V):ag C (k+1) fB [⇑W,.J [↑1,Q]]=(ag C k cj [⇑W,Q]).G λa=>M.N .none:=by ac_rfl
def ad'(U g n:V)(q:List V):ag C (k+1) fB [⇑W,.J [↑94,U,.J (g::n::q)]]=(ag C k cj [⇑W,.J (g::n::q)]).G λB=>(dD C W "held").G λz=>(dd C z U (.J [n,B])).G λa=>M.N .none:=by ac_rfl
def aea(U Q:V):ag C (k+1) fB [⇑W,.J [↑95,U,Q]]=(ag C k cj [⇑W,Q]).G λB=>(ag C k "_law_waited" [⇑W,B]).G λm=>(dD C W "held").G λz=>(dd C z U (.J [↑(-1),m])).G λa=>M.N .none:=by ac_rfl
def ad9(r e:V)(a:List V):ag C (k+1) fB [⇑W,.J [↑4,r,e,.J a]]=(ag C k cj [⇑W,r]).G λB=>aV C B ↑1 ((ag C k fB [⇑W,e]).G λb=>M.N .none) ((ag C k fB [⇑W,.J a]).G λb=>M.N .none):=by ac_rfl
abbrev B2(W:Nat)(s:V):ap:=[("w",⇑W),("s",s),("code",↑3)]
abbrev uY(W:Nat)(s a:V):ap:=[("w",⇑W),("s",s),("code",↑3),("kid",a)]
def ad6(H:List V)(u:V):ag C (k+1) fB [⇑W,.J [↑3,.J H,u]]=cf (a5 C k fB [1,1,0,0,0] 45) H (B2 W (.J [↑3,.J H,u])) (az C k fB [1,1,0,0,0] 46):=by ac_rfl
def ad7(D B:V)(c:ap->M V):a5 C k fB [1,1,0,0,0] 45 B (B2 W D) c=(ag C k fB [⇑W,B]).G λa=>c (uY W D B):= #[]
def ad8(D a B:V)(c:ap->M V):a5 C k fB [1,1,0,0,0] 45 B (uY W D a) c=(ag C k fB [⇑W,B]).G λb=>c (uY W D B):= #[]
def yY(C:List O)(k:Nat)(f:Str)(i U:Nat)(Y:ap):M bl:=match aT f eG with
 |some r=>match(r.d.body[i]?).map rg with
  |some (.ty b)=>gZ (n6 C k f) U (Y.map (·.1)) b Y (λl=>M.N (bl.next l)) (λv=>M.N (bl.ret v))
  |_=>M.ab
 |none=>M.ab
abbrev nf(s v Q A:V):ap:=[("g",s),(ho,v),("e",Q),("w",A)]
def xp(C:List O)(a v Q A:V)(c:ap->M V):M V:=(aJ C A (.str "stop")).G λs=>(dp C s).G λ
 |true=>c (rq a v Q A (.J [.str "stop",↑0]))
 |false=>(aJ C A (.str "fault")).G λx=>c (rq a v Q A (.J [.str "thrown",x]))
def adZ(s v Q:V):ag C (k+1) ek [s,v,Q]=cg C k ek [0] 49 [("g",s),(ho,v),("e",Q)] (az C k ek [0] 49):=by ac_rfl
def ad0(s v Q:V)(c:ap->M V):cg C k ek [0] 49 [("g",s),(ho,v),("e",Q)] c=(ag C k "_law_world" [s]).G λA=>c (nf s v Q A):= #[]
def ad1(Y:ap):az C k ek [0] 49 Y=cg C k ek [1] 48 Y (az C k ek [1] 48):= #[]
theorem ad2(s v Q A:V)(c:ap->M V):cg C k ek [1] 48 (nf s v Q A) c=λp=>match yY C k ek 1 47 (nf s v Q A) p with
 |.ok q y=>fl c M.N q y
 |.exc y=>xp C s v Q A c y
 |.ab=>.ab:= #[]
def DN(s v Q A a:V):az C k ek [1] 48 (rq s v Q A a)=(aJ C A (.str "log")).G λE=>(aJ C A (.str "lids")).G λy=>(aJ C A (.str ia)).G λg=>(aJ C A (.str "this")).G λx=>(aJ C A (.str "strange")).G λt=>M.N (.J [E,a,y,g,x,t]):= #[]
def ad3(s v Q A D a:V):az C k ek [1] 48 [("g",s),(ho,v),("e",Q),("w",A),("s",D),("end",a)]=(aJ C A (.str "log")).G λE=>(aJ C A (.str "lids")).G λy=>(aJ C A (.str ia)).G λg=>(aJ C A (.str "this")).G λx=>(aJ C A (.str "strange")).G λt=>M.N (.J [E,a,y,g,x,t]):= #[]
def sJ(C:List O)(k:Nat)(f:Str)(a:List Nat)(U:Nat)(pr:List Str)(B:V)(Y:ap)(c:ap->M bl):M bl:=match aT f eG with
 |some r=>match(sA a r.d.body).map rg with
  |some (.u3 t b)=>(M.opt (hd pr (n6 C k f).sc t B Y)).G λu=>gZ (n6 C k f) U pr b u c (λB=>M.N (bl.ret B))
  |_=>M.ab
 |none=>M.ab
abbrev q5:List Str:=["g",ho,"e","w"]
def ta(C:List O)(k:Nat)(f:Str)(U:Nat)(Y:ap):M bl:=match aT f eG with
 |some r=>match(r.d.body[(1:Nat)]?).map rg with
  |some (.ty b)=>gZ (n6 C k f) U q5 (b.drop 1) Y (λl=>M.N (bl.next l)) (λv=>M.N (bl.ret v))
  |_=>M.ab
 |none=>M.ab
def adH(s Q A:V)(v:Nat):yY C k ek 1 47 (nf s ⇑v Q A)=hZ (sJ C k ek [1,0] 45 q5) (nf s ⇑v Q A) (ta C k ek 46) ⇑v:= #[]
def adI(s v Q A B:V)(c:ap->M bl):sJ C k ek [1,0] 45 q5 B (nf s v Q A) c=(ag C k fB [A,B]).G λa=>c [("g",s),(ho,v),("e",Q),("w",A),("s",B)]:= #[]
def adJ(s v Q A B a:V)(c:ap->M bl):sJ C k ek [1,0] 45 q5 B [("g",s),(ho,v),("e",Q),("w",A),("s",a)] c=(ag C k fB [A,B]).G λb=>c [("g",s),(ho,v),("e",Q),("w",A),("s",B)]:= #[]
def adK(s v Q A:V):ta C k ek 46 (nf s v Q A)=(ag C k cj [A,Q]).G λB=>M.N (bl.next (rq s v Q A (.J [.str "value",B]))):= #[]
def adL(s v Q A a:V):ta C k ek 46 [("g",s),(ho,v),("e",Q),("w",A),("s",a)]=(ag C k cj [A,Q]).G λB=>M.N (bl.next [("g",s),(ho,v),("e",Q),("w",A),("s",a),("end",.J [.str "value",B])]):= #[]
def g5(o:O)(h:V->M V):M V:=(M.new o).G λi=>h ⇑i
def ad4(s:V):ag C (k+1) "_law_world" [s]=g5 (.list []) λE=>g5 (.aX []) λz=>g5 (.list [↑0]) λa=>g5 (.list [↑1]) λb4=>g5 (.list [↑0]) λcp=>g5 (.list [.J [↑3,↑4]]) λfz=>g5 (.list [↑1]) λdV=>g5 (.list [↑3]) λer=>g5 (.list [.J [↑1,↑8]]) λdW=>g5 (.list [↑5]) λed=>g5 (.list [.str "x"]) λee=>
 g5 (.list [a,b4,cp,fz,dV,er,dW,ed,ee]) λc=>g5 (.list [.str "c",↑10]) λf=>g5 (.list [.str "c",↑20]) λU=>g5 (.list [.str "a",↑30,↑31]) λb=>g5 (.list [.str "a",↑40,↑41,↑42]) λd=>g5 (.list [.str "n",↑7]) λH=>g5 (.list [.str "s",.J [↑60,↑61]]) λe=>g5 (.list [.none,f,U,b,d,H,e]) λq=>
 g5 (.aX [("g",s),("log",E),("held",z),("stop",↑0),("fault",↑0),("strange",↑0),("this",.J [↑70,↑71]),("lids",c),(ia,q)]) M.N:= #[]
end
variable{an gv ko:List Nat}{iB K5:List V}{h4 Ih:O}{dk:Type}{iw:Nat}{iY:O}{row:kK}{sH:List kK}
section
def sk(a i:Int):O:=.aX [("at",↑a),("ids",↑i),("kt",⇑4),("c",↑16),("f",↑17),("s",↑18),("a",↑19),("q",↑20),("r",↑21)]
def e8(b Y:Nat):Nat:=match i7 Y 12 with
 |true=>b+Y
 |false=>b+Y+6
def ny(b:Nat)(A:W):O:=.aX [("g",⇑2),("log",⇑b),("held",⇑(b+1)),("stop",↑A.stop),("fault",↑A.fault),("strange",↑0),("this",cU A.this.1 A.this.2),("lids",⇑(b+11)),(ia,⇑(b+18))]
def gX(b:Nat)(i:List Nat)(A:W)(B:List V)(N:O):List O:=[.list B,N,.list [↑0],.list [↑A.b4],.list [↑A.cp],.list [cU A.fz.1 A.fz.2],.list [↑A.dV],.list [↑A.er],.list [cU A.dW.1 A.dW.2],.list [↑A.ed],.list [A.ee],
 .list [⇑(b+2),⇑(b+3),⇑(b+4),⇑(b+5),⇑(b+6),⇑(b+7),⇑(b+8),⇑(b+9),⇑(b+10)],.list (.none::i.map .ref),ny b A]
def LJ(b q:Nat):Prop:=b+12<=q/\(q<b+18\/b+20<=q)
structure lq(b:Nat)(an:List Nat)(w:W)(iB:List V)(h4:O)(D:aG):Prop where
 jF:∀av,av<14->D[e8 b av]?=(gX b an w iB h4)[av]?
 g:∃a i,D[2]?=I (sk a i)
 m7:13<=b
 nl:an.length=w.a2.length
 di:∀(i r:Nat)(t:cr),an[i]?=I r->w.a2[i]?=I t->D[r]?=I (.list t.cV)
 jn:∀r∈an,LJ b r/\r<D.length
 iX:an.Nodup
 qr:∀t∈w.a2,t.cV.length<=2000
def nV(b:Nat)(i:List Nat)(p:aG):kK->V->Prop
 |.jz t,v=>v=.J [.str "await",t]
 |.cl l n H,v=>∃r,v=.J [.str l,↑n,⇑r]/\p[r]?=I (.list H)/\b+20<=r/\r∉i
def lX(b:Nat)(a:List Nat)(p:aG)(d:List kK)(B:List V):Prop:=B.length=d.length/\∀(i:Nat) row v,d[i]?=I row->B[i]?=I v->nV b a p row v
inductive gF:List (Int×V)->List (Int×(Int×V))->Prop
 |nil:gF [] []
 |same {n k:Int} {u:V} {es:List (Int×V)} {cz:List (Int×(Int×V))}:0<=k->gF es cz->gF ((n,.J [↑k,u])::es) ((n,(k,u))::cz)
 |nd {n k m:Int} {es:List (Int×V)} {cz:List (Int×(Int×V))}:gF es cz->gF ((n,.J [↑(-1),↑m])::es) ((n,(k,ik k m))::cz)
def E1(N:O)(b:List (Int×(Int×V))):Prop:=N=.aX []/\b=[]\/∃es,N=.id es/\gF es b
structure eB where
 m:Nat
 cI:List Nat
 X:List Nat
structure g_(n cw:eB):Prop where
 m:cw.m<=n.m
 cI:∀av∈cw.cI,av∈n.cI
 X:∀i∈n.X,i∈cw.X
theorem g_.refl(U:eB):g_ U U:= #[bq _,λa z=>z,λa z=>z]
structure aE(n:eB)(b:Nat)(an:List Nat)(w:W)(D:aG):Prop where
 mk::
 ex:∃iB h4,lq b an w iB h4 D/\lX b (an++n.cI) D w.bp iB/\E1 h4 w.ci
 fZ:w.bp.length<=14
 ahv:w.ci.length+n.m<=100000
 fb:w.a2.length<=200000
 m':∀av∈n.cI,b+20<=av/\av<D.length/\av∉an
structure de(n:eB)(b:Nat)(an gv:List Nat)(D y:aG):Prop where
 len:D.length<=y.length
 fr:∀i,i<D.length->(i<b\/b+20<=i)->i∉an->i∉n.X->y[i]?=D[i]?
 qX:∀r∈gv,D.length<=r
variable{b:Nat}{n cw:eB}{w a':W}
theorem de.refl:de n b an [] D D:= #[bq _,λa a a a a=>j,nofun]
theorem de.trans(z:de n b an gv D dI)(s:de n b (an++gv) ko dI lM):de n b an (gv++ko) D lM:= #[ao z.len s.len,λa f o M T=>by
 rw[s.fr a (fF f z.len) o (λi=>by
  obtain i|i:=d9.mp i
  .show M i
  .have:=z.qX a i;omega) T,z.fr a f o M T],λq x=>by
 obtain x|x:=d9.mp x
 .show z.qX q x
 .show ao z.len (s.qX q x)]
def tX(z:av<14):b<=e8 b av/\e8 b av<b+20/\¬LJ b (e8 b av):=by
 unfold e8;rcases l:i7 av 12 with _|_
 .let s:12<=av:=vT.mp λz=>kA (l.symm.trans (vR.mpr z));show#[ao (bv ..) (bv ..),mJ (Nat.add_lt_add_right z 6) b,λu=>u.2.elim (λu=>vT.mpr s (Nat.lt_of_add_lt_add_right (n:=6) (Nat.lt_of_add_lt_add_left (show b+(av+6)<b+(12+6) from u)))) λu=>Nat.not_le.mpr z (vS (b:=6) (afw (show b+(14+6)<=b+(av+6) from u)))]
 let s:=vR.mp l;show#[bv ..,mJ (oX s ()) b,λu=>hp av (fF s (afw u.1))]
def FI{i:Nat}(J:i<14)(s:av<14)(z:i≠av):e8 b i≠e8 b av:=by
 let Q:∀av,e8 b av=if av<12 then b+av else b+av+6:=λav=>by
  unfold e8;rcases l:i7 av 12 with _|_
  .rw[aS λz=>by rw[vR.mpr z] at l;cases l]
  rw[aL (vR.mp l)]
 rw[Q,Q];split<;>split<;>omega
theorem lq.lt(H:lq b an w iB h4 D)(z:av<14):e8 b av<D.length:=by
 have:=H.jF av z;rcases l:D[e8 b av]? with _|d
 .rw[l] at this;unfold gX at this;simp at this;omega
 show(c5.mp l).1
theorem lq.r4(H:lq b an w iB h4 D):b+20<=D.length:=by have:=H.lt (av:=13) ();show this
theorem lq.upd(H:lq b an w iB h4 D)(s:iw<14)(U:(gX b an w iB h4).set iw iY=gX b an a' K5 Ih)(A:a'.a2=w.a2):lq b an a' K5 Ih (D.set (e8 b iw) iY):=by
 let a:=tX (b:=b) s;show#[λY z=>?_,?_,H.m7,by rw[A];show H.nl,λi q r f o=>?_,λq x=>by rw[fV];show H.jn q x,H.iX,by rw[A];show H.qr]
 .rw[<-U];by_cases Q:Y=iw
  .subst Q;let c:Y<(gX b an w iB h4).length:=z;rw[iF (H.lt s),iF c]
  .rw[gh (FI z s Q),H.jF Y z,ru (i8 Q)]
 .obtain⟨E,i,Q⟩:=H.g;show#[E,i,by rw[gh (by have:=H.m7;omega),Q]]
 .rw[A] at o;have:=(H.jn q (rx.mpr #[i,f])).1;rw[gh (λQ=>a.2.2 (by rw[<-Q];show this)),H.di i q r f o]
theorem de.oH(s:iw<14)(B:O):de n b an [] D (D.set (e8 b iw) B):=by let A:=tX (b:=b) s;show#[by rw[fV];show bq _,λi f o a a=>gh (),nofun]
theorem nV.aD(z:nV b an D row v)(h:∀q,b+20<=q->q<D.length->q∉an->dI[q]?=D[q]?):nV b an dI row v:=by
 cases row with
 |jz r=>show z
 |cl l U H=>obtain⟨q,f,o,M,a⟩:=z;show#[q,f,by rw[h q M (c5.mp o).1 a];show o,M,a]
theorem lX.aD(z:lX b an D sH iB)(h:∀q,b+20<=q->q<D.length->q∉an->dI[q]?=D[q]?):lX b an dI sH iB:= #[z.1,λi a B f o=>(z.2 i a B f o).aD h]
theorem lX.oH(s:iw<14)(z:lX b an D sH iB):lX b an (D.set (e8 b iw) iY) sH iB:=z.aD λq f a a=>gh (by have:=tX (b:=b) s;omega)
theorem aE.upd(P:aE n b an w D)(s:iw<14)(U:∀B N,(gX b an w B N).set iw iY=gX b an a' B N)(A:a'.a2=w.a2)(c:a'.bp=w.bp)(m:a'.ci=w.ci):aE n b an a' (D.set (e8 b iw) iY):=by obtain⟨⟨B,N,H,g,y⟩,h,e,a,p⟩:=P;show#[#[B,N,H.upd s (U B N) A,by rw[c];show g.oH s,by rw[m];show y],by rw[c];show h,by rw[m];show e,by rw[A];show a,λY z=>by rw[fV];show p Y z]
theorem aE.at(P:aE n b an w D)(z:av<14)(a:1<av){o:O}(U:∀B N,(gX b an w B N)[av]?=I o):D[e8 b av]?=I o:=by obtain⟨⟨B,N,H,g,y⟩,_⟩:=P;rw[H.jF av z];show U B N
theorem nV.sub{J m:List Nat}(z:nV b J D row v)(h:∀q,q<D.length->q∉J->q∉m):nV b m D row v:=by
 cases row with
 |jz r=>show z
 |cl l U H=>obtain⟨q,f,o,M,a⟩:=z;show#[q,f,o,M,h q (c5.mp o).1 a]
theorem lX.sub{J m:List Nat}(z:lX b J D sH iB)(h:∀q,q<D.length->q∉J->q∉m):lX b m D sH iB:= #[z.1,λi a B f o=>(z.2 i a B f o).sub h]
theorem aE.le(d:aE n b an w D)(T:g_ n cw):aE cw b an w D:=by
 obtain⟨⟨B,N,H,g,y⟩,h,e,a,p⟩:=d;show#[#[B,N,H,g.sub λq f o M=>?_,y],h,by have:=T.m;omega,a,λi z=>p i (T.cI i z)];obtain M|M:=d9.mp M
 .show o (nB _ M)
 .show o (mH _ (T.cI q M))
theorem de.le(z:de n b an gv D dI)(T:g_ n cw):de cw b an gv D dI:= #[z.len,λi f o M a=>z.fr i f o M λO=>a (T.X i O),z.qX]
inductive wq(n:eB)(b:Nat)(an:List Nat)(D:aG)(R:List Nat->aq->aC->Prop)(m:M aC)(a:aq)(a':W):Prop
 |mk (v:aC) (y:aG) (gv:List Nat) (e:m D=.ok v y) (r:R (an++gv) a v) (P:aE n b (an++gv) a' y) (b6:de n b an gv D y):wq n b an D R m a a'
inductive wg(n:eB)(b:Nat)(an:List Nat)(D:aG)(m:M aC)(a':W):Prop
 |mk (y:aG) (gv:List Nat) (e:m D=.exc y) (P:aE n b (an++gv) a' y) (b6:de n b an gv D y):wg n b an D m a'
@[reducible] def lY(U:eB)(b:Nat)(i:List Nat)(p:aG)(H:List Nat->aq->aC->Prop)(m:M aC):jv aq->Prop
 |.ok a a'=>wq U b i p H m a a'
 |.exc a'=>wg U b i p m a'
 |.ab=>True
def am(U:eB)(b:Nat)(i:List Nat)(A:W)(p:aG)(H:List Nat->aq->aC->Prop)(m:M aC)(v:P aq):Prop:=lY U b i p H m (v A)
theorem lY.map{a:List Nat}{e:List Nat->bb->dk->Prop}{T:List Nat->bb->aC->Prop}{m:M dk}{w:M aC}{o:jv bb}(z:lY n b an D e m o)(t:∀E Y,wq n b an D e m E Y->wq cw b a lM T w E Y)(s:∀Y,wg n b an D m Y->wg cw b a lM w Y):lY cw b a lM T w o:=by
 cases o with
 |ok E Y=>show t E Y z
 |exc Y=>show s Y z
 |ab=>trivial
def DF{F:List Nat->Prop}(z:F ((an++gv)++ko)):F (an++(gv++ko)):=by rw[<-ez];show z
theorem am.G{R:List Nat->aq->aC->Prop}{S:List Nat->bb->dk->Prop}{m:M aC}{e:P aq}{f:aC->M dk}{l:aq->P bb}(z:am n b an w D R m e)(j:∀u E B Y y,e w=.ok E Y->R (an++u) E B->aE n b (an++u) Y y->de n b an u D y->am cw b (an++u) Y y S (f B) (l E))(v:g_ n cw):am cw b an w D S (m.G f) (e.G l):=by
 unfold am at z|-;unfold P.G;cases Q:e w with
 |ab=>trivial
 |exc H=>rw[Q] at z;obtain⟨i,u,d,r,q⟩:=z;show#[i,u,Jt d,r.le v,q.le v]
 |ok E H=>rw[Q] at z;obtain⟨B,i,u,d,k,r,q⟩:=z;show lY.map (o:=l E H) (j u E B H i Q k r q) (λg J #[a,N,x,s,c,t,h]=> #[a,N,u++x,(a8 d).trans s,DF (F:=λT=>S T g a) c,DF (F:=λT=>aE cw b T J N) t,(q.le v).trans h]) λJ #[N,x,s,t,h]=> #[N,u++x,(a8 d).trans s,DF (F:=λT=>aE cw b T J N) t,(q.le v).trans h]
theorem am.step{e:List Nat->bb->dk->Prop}{m r:M dk}{l i0:P bb}(Q:m D=r dI)(H:l w=i0 a')(g:de n b an [] D dI)(z:am n b an a' dI e r i0):am n b an w D e m l:=by unfold am at z|-;rw[H];let d:∀{ko:List Nat}{N:aG},de n b an ko dI N->de n b an ko D N:=λ{ko N} E=>g.trans (ko:=ko) (lM:=N) (by rw[dS];show E);show lY.map z (λf J #[a,N,ko,s,c,t,E]=> #[a,N,ko,Q.trans s,c,t,d E]) λJ #[N,ko,s,t,E]=> #[N,ko,Q.trans s,t,d E]
theorem am.eo{e:List Nat->bb->dk->Prop}{m r:M dk}{l:P bb}(Q:m D=r D)(z:am n b an w D e r l):am n b an w D e m l:=am.step Q j de.refl z
theorem am.bE{e:List Nat->bb->dk->Prop}{m:M aC}{v:aC}{t:aC->M dk}{l:P bb}(Q:m D=.ok v D)(z:am n b an w D e (t v) l):am n b an w D e (m.G t) l:=am.eo (a8 Q) z
theorem am.N{e:List Nat->bb->dk->Prop}{E:bb}{B:dk}(d:aE n b an w D)(z:e an E B):am n b an w D e (M.N B) (P.N E):= #[B,D,[],j,by rw[dS];show z,by rw[dS];show d,de.refl]
abbrev gG:List Nat->V->V->Prop:=λb a v=>v=a
abbrev nP:List Nat->Int->V->Prop:=λb a v=>v= ↑a
abbrev kO:List Nat->Unit->V->Prop:=λa a v=>v=.none
theorem BL{u:Str}{b:List (Str×V)}(z:D[m]?=I (.aX b))(x:aT u b=I v):aJ C ⇑m (.str u) D=.ok v D:=by
 split (match dx C D ⇑m with
   |some (.aX b)=>M.opt (aT u b)
   |_=>M.ab:M V) D=_
 have:dx C D ⇑m=I (.aX b):=z;rw[this];simp only[x];rfl
theorem aE.dict(P:aE n b an w D):D[b+19]?=I (ny b w):=P.at (av:=13) () () (λa a=>j)
theorem aE.oO(P:aE n b an w D){u:Str}(z:(match ny b w with|.aX es=>aT u es|_=>au)=I v):dD C (b+19) u D=.ok v D:=BL P.dict z
theorem aE.su(P:aE n b an w D):dD C (b+19) "log" D=.ok ⇑b D:=P.oO #[]
theorem aE.ss(P:aE n b an w D):dD C (b+19) "held" D=.ok ⇑(b+1) D:=P.oO #[]
theorem aE.uy(P:aE n b an w D):dD C (b+19) "lids" D=.ok ⇑(b+11) D:=P.oO #[]
theorem aE.mc(P:aE n b an w D):dD C (b+19) ia D=.ok ⇑(b+18) D:=P.oO #[]
theorem aE.By(P:aE n b an w D):dD C (b+19) "this" D=.ok (cU w.this.1 w.this.2) D:=P.oO #[]
theorem aE.TH(P:aE n b an w D):dD C (b+19) "g" D=.ok ⇑2 D:=P.oO #[]
theorem aE.xj(P:aE n b an w D){u:Str}(z:∀E i,(match sk E i with|.aX es=>aT u es|_=>au)=I v):aJ C ⇑2 (.str u) D=.ok v D:=by obtain⟨⟨B,N,H,a,y⟩,_⟩:=P;obtain⟨E,i,Q⟩:=H.g;show BL Q (z E i)
theorem aE.yd(P:aE n b an w D){u:Str}(z:∀E i,(match sk E i with|.aX es=>aT u es|_=>au)=I v):kr C (b+19) u K D=K v D:=by unfold kr;rw[a8 P.TH,a8 (P.xj z)]
theorem aE.Bk(P:aE n b an w D):kr C (b+19) "c" K D=K ↑16 D:=P.yd λa a=> #[]
theorem aE.xm(P:aE n b an w D):kr C (b+19) "s" K D=K ↑18 D:=P.yd λa a=> #[]
theorem aE.ga(P:aE n b an w D):kr C (b+19) "a" K D=K ↑19 D:=P.yd λa a=> #[]
theorem aE.HZ(P:aE n b an w D):kr C (b+19) "q" K D=K ↑20 D:=P.yd λa a=> #[]
theorem aE.logAt(P:aE n b an w D):∃B,D[b]?=I (.list B)/\B.length=w.bp.length/\lX b (an++n.cI) D w.bp B:=by obtain⟨⟨B,N,H,g,y⟩,_⟩:=P;show#[B,H.jF 0 (),g.1,g]
theorem xL(z:D[m]?=I (.list vs))(a:vs.length<=4000000):e_ ⇑m D=.ok ↑vs.length D:=by
 split (match D[m]? with
  |some (.list vs)=>match aU vs.length with
   |true=>M.N ↑vs.length
   |false=>M.ab
  |some (.id b)=>match aU b.length with
   |true=>M.N ↑b.length
   |false=>M.ab
  |some (.aX b)=>match aU b.length with
   |true=>M.N ↑b.length
   |false=>M.ab
  |_=>M.ab:M V) D=_
 rw[z];simp only[g0 a];rfl
theorem aE.jK(P:aE n b an w D):e_ ⇑b D=.ok ↑w.bp.length D:=by obtain⟨B,f,o,_⟩:=P.logAt;have:=P.fZ;rw[xL f (),o]
end
variable{B dR:M V}
section
variable{b:Nat}{n cw:eB}{w a':W}
def jH{r:M V}:aV C ↑x ↑y r B=if x=y then r else B:=by
 unfold aV;rw[iT,a_];by_cases z:x=y
 .rw[aL z,z,fh]
 .rw[aS z,beq_eq_false_iff_ne.mpr z]
def mod_int{m:Int}(z:0<m):bQ C .Mod ↑a ↑m=M.N ↑(a%m):=by split M.opt ((match↥(m=0) with|true=>au|false=>I (a.fmod m)).map V.int)=_;rw[f8 ()];split M.N (V.int (a.fmod m))=_;rw[Int.fmod_eq_emod_of_nonneg _ ()]
def sub_int(E g:Int):bQ C .Sub ↑E ↑g=M.N ↑(E-g):=j
def yk(u:0<=i)(z:i<l.length)(c:l.length<=1000):aJ C (.J l) ↑i=M.N (g6 l i):=by let Q:(i.toNat:Int)=i:=v' u;let a:i.toNat<l.length:=(v_ u).mpr z;unfold g6;rw[lU a,Option.getD_some];show gf i i.toNat Q.symm () (lU a)
def Oh(z:0<l.length)(c:l.length<=1000):n2 C ↑i l=M.N (g6 l (i%(l.length:Int))):=by let f:=Ei i (show(l.length:Int)≠0 by omega);let o:=Eg i (show(0:Int)<l.length by omega);unfold n2;rw[mod_int (),a_,yk f o c,a_]
def Ud{g:Prop}[Decidable g]{x:M V}{u e:V}(f:x D=.ok u D)(o:dR D=.ok e D):(if g then x else dR) D=.ok (if g then u else e) D:=by
 by_cases z:g
 .rw[aL z,aL z];show f
 .rw[aS z,aS z];show o
def qK{r:M V}(f:r D=.ok u D)(o:B D=.ok v D):aV C ↑x ↑y r B D=.ok (if x=y then u else v) D:=by rw[jH];show Ud f o
def oj{e:List Nat->bb->V->Prop}{r:M V}{g ms:P bb}(f:x=y->am n b an w D e r g)(o:x≠y->am n b an w D e B ms):am n b an w D e (aV C ↑x ↑y r B) (if x=y then g else ms):=by
 rw[jH];by_cases z:x=y
 .rw[aL z,aL z];show f z
 .rw[aS z,aS z];show o z
def DJ{e:List Nat->bb->dk->Prop}{r a:M dk}{CF ms:P bb}(f:x=0->am n b an w D e a CF)(o:x≠0->am n b an w D e r ms):am n b an w D e ((dp C ↑x).G λ|true=>r|false=>a) (if x=0 then CF else ms):=by
 split am n b an w D e ((M.N (!↥(x=0))).G _) _;rw[a_];by_cases z:x=0
 .rw[aL z,cW z];show f z
 .rw[aS z,f8 z];show o z
theorem am.ps{e:List Nat->bb->dk->Prop}{m:M dk}{l:P bb}(z:am n b an w D e m l):am n b an w D e (m.G M.N) l:=by rw[im];show z
def r3(z:0<l.length)(c:b' l.length 1000=L):n2 C ↑i l D=.ok (g6 l (i%(l.length:Int))) D:=congrFun (Oh z (cc c)) D
theorem Aq(P:aE n b an w D){a:Int}:ag C (k+1) "_law_answer" [⇑(b+19),↑a,↑i] D=.ok (ik a i) D:=by
 show(congrFun (acG ..) D).trans (qK ?_ (qK ?_ (qK ?_ (qK ?_ ?_))))
 .show r3 (lf _) j
 .rw[mod_int ()];rfl
 .show r3 (lf _) j
 .show r3 (lf _) j
 show P.Bk.trans (qK ?_ (P.xm.trans (qK ?_ (P.ga.trans (qK ?_ ?_)))))
 .show r3 (lf _) j
 .rfl
 .show r3 (lf _) j
 .show r3 (lf _) j
theorem aaZ{u:Str}{b:List (Str×V)}(z:D[m]?=I (.aX b))(a:b.length<=4000000):dd C ⇑m (.str u) v D=.ok bL (D.set m (.aX (put u v b))):=by unfold dd M.get;dsimp only;rw[z];simp only[g0 a];rfl
theorem aE.C7(P:aE n b an w D){x:Str}(a:(match ny b w with|.aX es=>O.aX (put x v es)|d=>d)=ny b a')(U:∀B N,(gX b an w B N).set 13 (ny b a')=gX b an a' B N)(A:a'.a2=w.a2)(c:a'.bp=w.bp)(m:a'.ci=w.ci):dd C ⇑(b+19) (.str x) v D=.ok bL (D.set (e8 b 13) (ny b a'))/\aE n b an a' (D.set (e8 b 13) (ny b a'))/\de n b an [] D (D.set (e8 b 13) (ny b a')):=by show#[?_,P.upd () U A c m,de.oH () _];rw[<-a];show aaZ P.dict (by simp)
theorem kx{e:List Nat->aq->V->Prop}(P:aE n b an w D){h:M V}:am n b an w D e (hl C (k+1) (b+19) c h) (eY c):=by obtain⟨Q,r,q⟩:=P.C7 (C:=C) (x:="fault") (v:= ↑c) (a':={w with fault:=c}) #[] (λa a=>j) j j j;unfold hl;rw[adG];show#[_,[],by rw[hv,a8 Q];rfl,by rw[dS];show r,q]
theorem Cq(P:aE n b an w D)(o:nV b (an++n.cI) D row v):am n b an w D kO (ag C (k+1) "_law_note" [⇑(b+19),v]) (lF row):=by
 rw[adc];show am.bE P.su (am.bE P.jK ?_);let U:bh C .GtE ↑w.bp.length ↑14=M.N ↥((14:Int)<=w.bp.length):=j;rw[U,a_];unfold am lF;by_cases z:14<=w.bp.length
 .rw[cW (),aL z];obtain⟨Q,r,m⟩:=P.C7 (C:=C) (x:="stop") (v:= ↑1) (a':={w with stop:=1}) #[] (λs s=>j) j j j;show#[_,[],by dsimp only;rw[a8 Q];rfl,by rw[dS];show r,m]
 .rw[f8 (),aS z];obtain⟨⟨B,l,H,g,y⟩,h,e,a,p⟩:=P;let P:aE n b an w D:= #[#[B,l,H,g,y],h,e,a,p];let u:D[b]?=I (.list B):=H.jF 0 ();let f:∀q,b+20<=q->q<D.length->q∉an++n.cI->(D.set b (.list (B++[v])))[q]?=D[q]? :=λq bJ s s=>gh ();show#[.none,D.set b (.list (B++[v])),[],?_,j,?_,de.oH (iw:=0) () _]
  .dsimp only;rw[a8 P.su,n1 u (by have:=g.1;omega)];rfl
  .rw[dS];show#[#[B++[v],l,H.upd (iw:=0) () j j,#[?_,?_],y],?_,e,a,λY z=>by rw[fV];show p Y z]
   .rw[cu,cu,g.1];rfl
   .intro i c d bJ bZ;let b4:=g.1;by_cases J:i<w.bp.length
    .rw[eP J] at bJ;rw[eP ()] at bZ;show(g.2 i c d bJ bZ).aD f
    .let Q:i=w.bp.length:=by
      have:=(c5.mp bJ).1;simp at this;omega
     subst Q;rw[kE (bq _),p9] at bJ;rw[<-b4,kE (bq _),p9] at bZ
     injections bJ;injections bZ
     show o.aD f
   .split (w.bp++[row]).length<=14;simp;omega
def C_(z:D[m]?=I (.list (u::vs))):dd C ⇑m ↑0 v D=.ok bL (D.set m (.list (v::vs))):=q9 0 0 j () z (by simp)
theorem aE.I2(P:aE n b an w D):D[b+11]?=I (.list [⇑(b+2),⇑(b+3),⇑(b+4),⇑(b+5),⇑(b+6),⇑(b+7),⇑(b+8),⇑(b+9),⇑(b+10)]):=P.at (av:=11) () () λa a=>j
def sE(A:W):Nat->V
 |1=> ↑A.b4|2=> ↑A.cp|3=>cU A.fz.1 A.fz.2|4=> ↑A.dV|5=> ↑A.er|6=>cU A.dW.1 A.dW.2|7=> ↑A.ed|_=>A.ee
def uV{i:Nat}(z:1<=i/\i<=8):i=1\/i=2\/i=3\/i=4\/i=5\/i=6\/i=7\/i=8:=(by decide:∀i,i<9->1<=i->i=1\/i=2\/i=3\/i=4\/i=5\/i=6\/i=7\/i=8) i (afC z.2) z.1
theorem aE.uU(P:aE n b an w D){i:Nat}(z:1<=i/\i<=8):aJ C ⇑(b+11) ↑i D=.ok ⇑(e8 b (i+2)) D:=by show jI i i j () P.I2 ?_;obtain rfl|rfl|rfl|rfl|rfl|rfl|rfl|rfl:=uV z<;>rfl
theorem aE.qP(P:aE n b an w D){i:Nat}(z:1<=i/\i<=8):D[e8 b (i+2)]?=I (.list [sE w i]):=by obtain rfl|rfl|rfl|rfl|rfl|rfl|rfl|rfl:=uV z<;>show P.at () () λa a=>j
theorem aE.getL(P:aE n b an w D){i:Nat}(z:1<=i/\i<=8):getL C ⇑(b+11) i K D=K (sE w i) D:=by unfold Mine.getL;rw[a8 (P.uU z),a8 (jI 0 0 j () (P.qP z) j)]
theorem aE.k8(P:aE n b an w D){i:Nat}(z:1<=i/\i<=8){h:M V}:k8 C ⇑(b+11) i v h D=h (D.set (e8 b (i+2)) (.list [v])):=by unfold Mine.k8;rw[a8 (P.uU z),a8 (C_ (P.qP z))]
theorem aE.sD(P:aE n b an w D){i:Nat}(z:1<=i/\i<=8)(Y:W)(U:∀B N,(gX b an w B N).set (i+2) (.list [v])=gX b an Y B N)(A:Y.a2=w.a2)(c:Y.bp=w.bp)(m:Y.ci=w.ci):aE n b an Y (D.set (e8 b (i+2)) (.list [v]))/\de n b an [] D (D.set (e8 b (i+2)) (.list [v])):= #[P.upd () U A c m,de.oH () _]
theorem J'{l:List Int}(u:0<=i)(z:i<l.length)(c:l.length<=1000):aJ C (.J (l.map .int)) ↑i=M.N ↑(nq l i):=by rw[yk u (by rw[fU];show z) (by rw[fU];show c)];unfold g6 nq;let a:i.toNat<l.length:=(v_ u).mpr z;rw[rt,lU a];rfl
theorem aE.DD(P:aE n b an w D):D[b+18]?=I (.list (.none::an.map .ref)):=P.at (av:=12) () () λa a=>j
theorem aE.rc(P:aE n b an w D):∃B N,lq b an w B N D:=by obtain⟨⟨B,N,H,g,y⟩,_⟩:=P;show#[B,N,H]
theorem aE.oK(P:aE n b an w D){v:Int}(a:1<=v)(z:w.a2[(v-1).toNat]?=I t):∃q,an[(v-1).toNat]?=I q/\D[q]?=I (.list t.cV)/\aJ C ⇑(b+18) ↑v D=.ok ⇑q D/\t.cV.length<=2000:=by
 obtain⟨B,N,H⟩:=P.rc;let c:=(c5.mp z).1;have:=P.fb;let E:(v-1).toNat<an.length:=by rw[H.nl];show c
 show#[an[(v-1).toNat],lU E,H.di _ _ _ (lU E) z,?_,H.qr t (rx.mpr #[_,z])];show jI v ((v-1).toNat+1) (LP a) (ao (afM c) (ao P.fb ())) P.DD ?_;rw[rL,rt,lU E];rfl
theorem JL:∀{T:List Nat}{i av x:Nat},T.Nodup->T[i]?=I x->T[av]?=I x->i=av
 |E::T,0,0,x,_,_,_=>rfl
 |E::T,0,av+1,x,z,bJ,bZ=>by
  rw[j0] at z;rw[rL] at bZ
  injections bJ
  cases z.1 (rx.mpr #[_,bZ])
 |E::T,i+1,0,x,z,bJ,bZ=>by
  rw[j0] at z;rw[rL] at bJ
  injections bZ
  cases z.1 (rx.mpr #[_,bJ])
 |E::T,i+1,av+1,x,z,bJ,bZ=>by rw[j0] at z;rw[JL z.2 bJ bZ]
theorem aE.Lj(P:aE n b an w D){v q:Nat}(z:w.a2[v]?=I t)(x:an[v]?=I q)(V:cr)(k:V.cV.length<=2000):aE n b an {w with a2:=w.a2.set v V} (D.set q (.list V.cV))/\de n b an [] D (D.set q (.list V.cV)):=by
 obtain⟨⟨B,N,H,f,y⟩,h,e,a,p⟩:=P;let d:q∈an:=rx.mpr #[_,x];obtain⟨O,j⟩:=H.jn q d;let T:∀i,i∉an->(D.set q (.list V.cV))[i]?=D[i]? :=λi J=>gh (λQ=>J (Q▸d));show#[#[#[B,N,#[λY s=>?_,?_,H.m7,by rw[fV];show H.nl,λi c U bJ bZ=>?_,λu T=>by rw[fV];show H.jn u T,H.iX,λu T=>?_],?_,y],h,e,by rw[fV];show a,λY z=>by rw[fV];show p Y z],#[by rw[fV];show bq _,λi o o eT o=>T i eT,nofun]]
 .have:=(tX (b:=b) s).2.2;rw[gh (λQ=>this (by rw[Q];show O)),H.jF Y s];rfl
 .obtain⟨E,i,Q⟩:=H.g;show#[E,i,by rw[gh (by have:=H.m7;have:=O.1;omega),Q]]
 .by_cases Q:i=v
  .subst Q;rw[x] at bJ;injections bJ;rw[iF (c5.mp z).1] at bZ
   injections bZ
   rw[iF j]
  .rw[ru (i8 Q)] at bZ;let l:c≠q:=λm=>by subst m;show Q (JL H.iX bJ x)
   rw[gh l,H.di i c U bJ bZ]
 .obtain z|z:=Ms T
  .show H.qr u z
  .subst z;show k
 .show f.aD λi o o eT=>T i λz=>eT (nB _ z)
theorem Dz(z:t.get i=I x):1<=i/\t.cV[i.toNat]?=I ↑x/\i.toNat<t.cV.length/\∀e,(t.set i e).cV=t.cV.set i.toNat ↑e:=by
 cases t with
 |c B=>
  replace z:(if i=1 then I B else au)=I x:=z;by_cases Q:i=1
  .rw[aL Q] at z;injections z;subst Q;show#[by omega,j,by split 1<2;omega,λe=>j]
  .rw[aS Q] at z;cases z
 |a b=>
  replace z:(if 1<=i then b[(i-1).toNat]? else au)=I x:=z;by_cases Q:1<=i
  .rw[aL Q] at z;let d:i.toNat=(i-1).toNat+1:=aN Int.toNat (LP Q);let g:=(c5.mp z).1;show#[Q,?_,?_,λe=>?_]
   .split (V.str "a"::b.map V.int)[i.toNat]?=_;rw[d,rL,rt,z];rfl
   .split i.toNat<(V.str "a"::b.map V.int).length;rw[oW,fU,d];show afN g
   .split V.str "a"::(b.set (i-1).toNat e).map V.int=(V.str "a"::b.map V.int).set i.toNat ↑e;rw[d,List.set_cons_succ,List.map_set]
  .rw[aS Q] at z;cases z
 |n B=>cases z
 |s x e=>cases z
 |f x e=>cases z
theorem am.wO{e:List Nat->bb->dk->Prop}{m:M dk}{l i0:P bb}(Q:l w=i0 w)(z:am n b an w D e m i0):am n b an w D e m l:=by unfold am at z|-;rw[Q];show z
theorem am.ab{e:List Nat->bb->dk->Prop}{m:M dk}{l:P bb}(z:l w=.ab):am n b an w D e m l:=by unfold am;rw[z];trivial
theorem am.dz{e:List Nat->bb->dk->Prop}{m:M dk}{v:Int}{a:cr->P bb}(z:∀r,1<=v->w.a2[(v-1).toNat]?=I r->am n b an w D e m (a r)):am n b an w D e m ((dz v).G a):=by
 by_cases t:1<=v
 .rcases Q:w.a2[(v-1).toNat]? with _|r
  .show .ab (fp (nx (.inr Q)))
  show am.wO (b1 (oL t Q)) (z r t Q)
 .show .ab (fp (nx (.inl t)))
theorem wK{h:M V}{v:Int}{e:List Nat->bb->V->Prop}{l:P bb}(d:aE n b an w D)(z:∀Y y,aE n b an Y y->am n b an Y y e h l):am n b an w D e (n5 C (b+19) v h) ((bump v).G λg=>l):=by
 let Q:(bump v).G (λg=>l)=(Mine.dz v).G λr=>(match r.get 1 with|some u=>oG v (r.set 1 (u+1))|none=>P.ab).G λg=>l:=by unfold bump;rw[d6]<;>rfl
 rw[Q];show am.dz λr t A=>?_;rcases O:r.get 1 with _|u
 .show .ab (fp j)
 obtain⟨q,x,f,J,c⟩:=d.oK (C:=C) t A;obtain⟨_,p,a,N⟩:=Dz O;let T:=d.Lj A x (r.set 1 (u+1)) (by rw[N,fV];show c);show am.bE d.mc (am.bE J (am.bE (jI 1 1 j () f p) ?_));rw[add_int,a_];show am.bE d.mc (am.bE J ?_);show am.step (a8 (q9 1 1 j () f a)) (b1 (m:=oG v (r.set 1 (u+1))) j) ?_ (z _ _ ?_)
 .have:=T.2;rw[N] at this;show this
 .have:=T.1;rw[N] at this;show this
def Ce(m g:Nat)(z:0<g):0<=(m:Int)%(g:Int)/\(m:Int)%(g:Int)<(g:Int):= #[Ei _ (),Eg _ ()]
theorem am.set{e:List Nat->bb->V->Prop}{l:P bb}{a:W}{i:Nat}{h:M V}(d:aE n b an w D)(z:1<=i/\i<=8)(Y:W)(U:∀B N,(gX b an w B N).set (i+2) (.list [v])=gX b an Y B N)(A:Y.a2=w.a2)(c:Y.bp=w.bp)(m:Y.ci=w.ci)(s:∀y,aE n b an Y y->am n b an Y y e h (λf=>l a)):am n b an w D e (k8 C ⇑(b+11) i v h) (λf=>l a):=am.step (d.k8 z) j (d.sD z Y U A c m).2 (s _ (d.sD z Y U A c m).1)
def LW(A:W):W:={A with b4:=A.b4+1}
def LX(A:W):W:={LW A with cp:=A.bp.length%3}
def LY(A:W):W:={LX A with fz:=(A.fz.1+2,A.bp.length)}
def LZ(A:W):W:={LY A with dV:=nq [1,2,2,0] (A.bp.length%4)}
def L0(A:W):W:={LZ A with er:=3+A.bp.length%2}
def L1(A:W):W:={L0 A with dW:=(if(A.bp.length:Int)%2=0 then(0,0) else(1,(A.bp.length:Int)))}
def L2(A:W):W:={L1 A with ed:=nq [5,1,6,0] (A.bp.length%4)}
def acA(A:W):W:={L2 A with ee:=g6 [.str "x",.str "y",.none] (A.bp.length%3)}
theorem acy(d:aE n b an w D):am n b an w D kO (ag C (k+1) ej [⇑(b+19)]) rm:=by
 show am.eo (congrFun (adM ..) _) (am.bE d.su (am.bE d.jK (am.bE d.uy (am.eo (congrFun (adN ..) _) (am.eo (d.getL (i:=1) ()) ?_)))));let c:0<=(w.bp.length:Int)%3/\(w.bp.length:Int)%3<3:=Ce w.bp.length 3 ();let a:0<=(w.bp.length:Int)%4/\(w.bp.length:Int)%4<4:=Ce w.bp.length 4 ();let o:0<=(w.bp.length:Int)%2/\(w.bp.length:Int)%2<2:=Ce w.bp.length 2 ();show am.bE (v:= ↑(w.b4+1)) j ?_;show am.set (i:=1) d () (LW w) (λe e=>j) j j j λz d=>?_;show am.eo (congrFun (adP ..) _) (am.bE (congrFun (mod_int ()) _) ?_);show am.set (i:=2) d () (LX w) (λe e=>j) j j j λz d=>?_;show am.eo (congrFun (adQ ..) _) (am.eo (d.getL (i:=3) ()) (am.bE (v:= ↑w.fz.1) j (am.bE (v:= ↑(w.fz.1+2)) j ?_)));show am.set (i:=3) d () (LY w) (λe e=>j) j j j λz d=>?_;show am.eo (congrFun (adR ..) _) (am.bE (congrFun (mod_int ()) _) (am.bE (congrFun (J' (l:=[1,2,2,0]) a.1 a.2 ()) _) ?_));show am.set (i:=4) d () (LZ w) (λe e=>j) j j j λz d=>?_;show am.eo (congrFun (adS ..) _) (am.bE (congrFun (mod_int ()) _) (am.bE (congrFun (add_int ..) _) ?_));show am.set (i:=5) d () (L0 w) (λe e=>j) j j j λz d=>?_;let g:aJ C (.J [.J [↑0,↑0],.J [↑1,↑w.bp.length]]) ↑(w.bp.length%2)=M.N (cU (if(w.bp.length:Int)%2=0 then((0:Int),(0:Int)) else(1,(w.bp.length:Int))).1 (if(w.bp.length:Int)%2=0 then((0:Int),(0:Int)) else(1,(w.bp.length:Int))).2):=by
  by_cases Q:(w.bp.length:Int)%2=0
  .rw[aL Q,Q];rfl
  .rw[aS Q,show(w.bp.length:Int)%2=1 by omega];rfl
 show am.eo (congrFun (adT ..) _) (am.bE (congrFun (mod_int ()) _) (am.bE (congrFun g _) ?_));show am.set (i:=6) d () (L1 w) (λe e=>j) j j j λz d=>?_;show am.eo (congrFun (adU ..) _) (am.bE (congrFun (mod_int ()) _) (am.bE (congrFun (J' (l:=[5,1,6,0]) a.1 a.2 ()) _) ?_));show am.set (i:=7) d () (L2 w) (λe e=>j) j j j λz d=>?_;show am.eo (congrFun (adV ..) _) (am.bE (congrFun (mod_int ()) _) (am.bE (congrFun (yk (l:=[.str "x",.str "y",.none]) c.1 c.2 ()) _) ?_));show am.set (i:=8) d () (acA w) (λe e=>j) j j j λz d=>?_;show am.eo (congrFun (adW ..) _) (am.bE d.By (am.bE (v:= ↑w.this.1) j (am.bE (v:= ↑(w.this.1+4)) j ?_)));obtain⟨Q,r,q⟩:=d.C7 (C:=C) (x:="this") (v:=.J [↑(w.this.1+4),↑w.bp.length]) (a':=rn w) #[] (λe e=>j) j j j;show am.step (a':=rn w) (i0:=(bump 1).G λe=>(bump 2).G λe=>(bump 3).G λe=>(bump 4).G λe=>P.N bL) (a8 Q) ?_ q ?_
 .split rm w=_;have:bump 4=(bump 4).G λe=>P.N bL:=(q4 (bump 4)).symm;rw[<-this];show b1 (m:=λw=>.ok bL (rn w)) j
 .show am.eo (congrFun (adO ..) _) (wK r λH z T=>wK T λH z T=>wK T λH z T=>wK T λH z T=>am.N T j)
def og:g_ n n:=g_.refl n
def Jc(d:aE n b an w D){l:Int->P bb}{e:List Nat->bb->V->Prop}(z:am n b an w D e (K ↑w.bp.length) (l w.bp.length)):am n b an w D e ((dD C (b+19) "log").G λT=>(e_ T).G K) (jK.G l):=by show am.bE d.su (am.bE d.jK ?_);show z
def Mh(d:aE n b an w D){r:V}:am n b an w D nP (ag C (k+2) "_law_waited" [⇑(b+19),r]) (oP r):=by
 rw[adY];show am.G (Cq d (row:=.jz r) j) (λu E B H c e a T q=>?_) og;show am.G (acy T) (λu E B H c e a T q=>?_) og;show Jc T ?_;rw[mod_int (),a_,iT,a_];by_cases z:(H.bp.length:Int)%7=6
 .rw[z,fh,aL j];show kx T
 .rw[beq_eq_false_iff_ne.mpr z,aS z];show am.bE T.su (am.bE T.jK (am.N T j))
end
variable{hT:Int}
section
variable{b:Nat}{n cw:eB}{w a':W}
theorem aE.r4(d:aE n b an w D):b+20<=D.length:=by obtain⟨_,_,H⟩:=d.rc;show H.r4
theorem lq.app(H:lq b an w iB h4 D)(Y:List O):lq b an w iB h4 (D++Y):=by
 let T:∀{i:Nat}{d:O},D[i]?=I d->(D++Y)[i]?=I d:=λz=>by rw[eP (c5.mp z).1];show z
 show#[λi z=>?_,?_,H.m7,H.nl,λi q r f o=>T (H.di i q r f o),λq x=> #[(H.jn q x).1,?_],H.iX,H.qr]
 .rw[eP (H.lt z)];show H.jF i z
 .obtain⟨E,i,Q⟩:=H.g;show#[E,i,T Q]
 .have:=(H.jn q x).2;rw[cu];omega
theorem aE.app(d:aE n b an w D)(Y:List O):aE n b an w (D++Y):=by obtain⟨⟨B,N,H,g,y⟩,h,e,a,p⟩:=d;show#[#[B,N,H.app Y,g.aD λq c z c=>eP z,y],h,e,a,λi z=> #[(p i z).1,by have:=(p i z).2.1;rw[cu];omega,(p i z).2.2]]
theorem de.app(Y:List O):de n b an [] D (D++Y):= #[by rw[cu];omega,λi z a a a=>eP z,nofun]
theorem aE.JH(d:aE n b an w D)(s:O):aE #[n.m,D.length::n.cI,D.length::n.X] b an w (D++[s]):=by
 obtain⟨⟨B,N,H,g,y⟩,h,e,a,p⟩:=d.app [s];let r:D.length∉an:=λz=>by obtain⟨_,_,H⟩:=d.rc;have:=(H.jn _ z).2;omega
 obtain⟨⟨c,l,g',e5,k⟩,_⟩:=d;let j:c=B:=by
  let f:=H.jF 0 ();let o:=(g'.app [s]).jF 0 ();rw[f] at o;let M:O.list B=O.list c:=bR o;injection M with M
  show M.symm
 subst j;show#[#[c,N,H,(e5.sub λq f o M=>?_).aD λq t z t=>eP z,y],h,e,a,λi z=>?_]
 .obtain M|M:=d9.mp M
  .show o (nB _ M)
  .cases M with
   |head=>omega
   |tail _ M=>show o (mH _ M)
 .cases z with
  |head=>show#[g'.r4,by rw[cu];simp,r]
  |tail _ z=>show p i z
theorem aE.Lh(d:aE n b an w D)(s:av∈n.cI)(k:O):aE n b an w (D.set av k):=by
 obtain⟨⟨B,N,H,c,y⟩,h,e,a,p⟩:=d;obtain⟨l,m,j⟩:=p av s;show#[#[B,N,#[λi z=>?_,?_,H.m7,H.nl,λi q r f o=>?_,λq x=>by rw[fV];show H.jn q x,H.iX,H.qr],c.aD λq t t z=>gh λQ=>z (by rw[Q];show mH _ s),y],h,e,a,λi z=>by rw[fV];show p i z]
 .rw[gh (by have:=tX (b:=b) z;omega)];show H.jF i z
 .obtain⟨E,i,Q⟩:=H.g;show#[E,i,by rw[gh (by have:=H.m7;omega),Q]]
 .rw[gh (λQ=>j (by rw[<-Q];show rx.mpr #[_,f])),H.di i q r f o]
theorem am.le{e:List Nat->bb->dk->Prop}{m:M dk}{q:P bb}(z:am n b an w D e m q)(T:g_ n cw):am cw b an w D e m q:=lY.map z (λg J #[a,N,x,s,c,t,E]=> #[a,N,x,s,c,t.le T,E.le T]) λJ #[N,x,s,t,E]=> #[N,x,s,t.le T,E.le T]
def Jl{d:O}{i:Nat}(z:i<D.length):i<(D++[d]).length:=by rw[cu];show zb z
def IW{d:O}{i:Nat}(z:(D++[d]).length<=i):D.length<=i:=by rw[cu] at z;show hH z
theorem de.cut{d:O}(z:cw.X=D.length::n.X)(g:de cw b an gv (D++[d]) dI):de n b an gv D dI:= #[IW g.len,λi f o M a=>(g.fr i (Jl f) o M (by rw[z];show λc=>(gm.mp c).elim (iG f) a)).trans (eP f),λq x=>IW (g.qX q x)]
theorem aE.Gm{J:List Nat}(d:aE #[n.m,av::n.cI,J] b an w D):aE n b an w D:=by obtain⟨⟨B,N,H,g,y⟩,h,e,a,p⟩:=d;show#[#[B,N,H,g.sub λq f o M=>(d9.mp M).elim (λM=>o (nB _ M)) λM=>o (mH _ (.tail _ M)),y],h,e,a,λi z=>p i (.tail _ z)]
def Ws(h:aE n b an w D){d:O}{f:Nat->M dk}{l:P bb}{e:List Nat->bb->dk->Prop}(z:am #[n.m,D.length::n.cI,D.length::n.X] b an w (D++[d]) e (f D.length) l):am n b an w D e ((M.new d).G f) l:=lY.map z (λg J #[a,N,x,s,c,t,E]=> #[a,N,x,s,c,t.Gm,E.cut j]) λJ #[N,x,s,t,E]=> #[N,x,s,t.Gm,E.cut j]
theorem de.C8(s:av∈n.X)(d:O):de n b an [] D (D.set av d):= #[by rw[fV];show bq _,λi a a a z=>gh λQ=>z (Q▸s),nofun]
inductive Fj(C:List O)(k:Nat)(n:eB)(b:Nat)(an:List Nat)(D:aG)(row:List V)(a:Int)(a':W):Prop
 |mk (y:aG) (e:ag C (k+1) "_law_put" [⇑(b+19),⇑D.length] (D++[.list row])=.ok ↑a y) (Q:aE n b (an++[D.length]) a' y) (b6:de n b an [D.length] D y):Fj C k n b an D row a a'
theorem Yk(d:aE n b an w D)(A:t.cV.length<=2000)(c:w.a2.length<=100000):Fj C k n b an D t.cV ((w.a2.length:Int)+1) {w with a2:=w.a2++[t]}:=by
 let T:=d.app [O.list t.cV];let o:=d.r4;let E:b+18<D.length:=fF (mJ () b) o;obtain⟨⟨B,N,H,ae,y⟩,ah,af,ai,p⟩:=d;let j:=H.nl;let e:(.none::an.map .ref:List V).length=w.a2.length+1:=aN (· +1) ((fU (as:=an) V.ref).trans j);let m:∀i,i<D.length->i≠b+18->((D++[O.list t.cV]).set (b+18) (.list (.none::an.map .ref++[⇑D.length])))[i]?=D[i]? :=λi bJ bZ=>(gh bZ).trans (eP bJ);let r:D.length∉an:=λz=>hp _ (H.jn _ z).2;let h:D.length<((D++[O.list t.cV]).set (b+18) (.list (.none::an.map .ref++[⇑D.length]))).length:=by rw[fV,cu];show zc _
 let U:((D++[O.list t.cV]).set (b+18) (.list (.none::an.map .ref++[⇑D.length])))[b+18]?=I (.list (.none::an.map .ref++[⇑D.length])):=iF (Jl E);show#[(D++[O.list t.cV]).set (b+18) (.list (.none::an.map .ref++[⇑D.length])),?_,?_,?_]
 .rw[ade];rw[a8 T.mc,n1 T.DD (by rw[e];show ao (hJ c) ())];let G:((D++[O.list t.cV]).set (b+18) (.list (.none::an.map .ref++[⇑D.length])))[b+19]?=I (ny b w):=(gh (tk (zc _))).trans T.dict;let J:dD C (b+19) ia ((D++[O.list t.cV]).set (b+18) (.list (.none::an.map .ref++[⇑D.length])))=.ok ⇑(b+18) _:=BL G #[];rw[a8 J,a8 (xL U (by rw[cu,e];show ao (hJ (hJ c)) ())),sub_int,a_];rw[show((.none::an.map .ref++[⇑D.length]:List V).length:Int)-1=(w.a2.length:Int)+1 by rw[cu,e];show MV ((w.a2.length:Int)+1) 1];rfl
 .show#[#[B,N,#[λY s=>?_,?_,H.m7,?_,λi q aa bJ bZ=>?_,λq x=>?_,?_,λaa f=>?_],?_,y],ah,af,?_,λi z=>?_]
  .by_cases Q:Y=12
   .subst Q;show U.trans ?_;unfold gX;rw[Mr];rfl
   .let v:=FI (b:=b) s (show 12<14 by decide) Q;rw[m _ (H.lt s) v,H.jF Y s];show(ru (l:=gX b an w B N) (a:=.list (.none::(an++[D.length]).map .ref)) (i8 Q)).symm
  .obtain⟨a,i,Q⟩:=H.g;let bZ:2<b:=fF () H.m7;show#[a,i,(m 2 (oX bZ (rB (bv ..) E)) (iG (fF bZ (bv ..)))).trans Q]
  .split _=(w.a2++[t]).length;rw[cu,cu,j];rfl
  .replace bZ:(w.a2++[t])[i]?=I aa:=bZ;by_cases J:i<an.length
   .rw[eP J] at bJ;rw[eP (za J j)] at bZ;let x:=H.jn q (rx.mpr #[_,bJ]);show(m q x.2 λac=>?_).trans (H.di i q aa bJ bZ);subst ac;show x.1.2.elim (hp _) λac=>cH ac (Nat.not_le_of_gt (mJ () b))
   .let Q:i=an.length:=y_ (afx (za (qS bJ) cu)) (afy J);subst Q;rw[kE (bq _),p9] at bJ;rw[j,kE (bq _),p9] at bZ
    injections bJ;injections bZ
    show(gh (tk E)).trans (dU _ _)
  .obtain x|x:=d9.mp x
   .show#[(H.jn q x).1,oX (H.jn q x).2 h]
   .obtain rfl:=fC.mp x;show#[#[ao (e3 () b) o,.inr o],h]
  .rw[y9];show#[H.iX,ah2 nofun .nil,λu ag aj M Q=>r ?_];rw[<-fC.mp M,<-Q];show ag
  .show(d9.mp f).elim (H.qr aa) λf=>by rw[fC.mp f];show A
  .show(ae.sub λq bJ bZ eT=>?_).aD λq bJ bZ _=>m q bZ (tk (fF (mJ () b) bJ));obtain eT|eT:=d9.mp eT
   .obtain eT|eT:=d9.mp eT
    .show bZ (nB _ eT)
    .cases(iG bJ) (fC.mp eT)
   .show bZ (mH _ eT)
  .split (w.a2++[t]).length<=200000;rw[cu];show ao (hJ c) ()
  .obtain⟨bJ,bZ,eT⟩:=p i z;show#[bJ,oX bZ h,λab=>?_];show(d9.mp ab).elim eT λab=>iG bZ (fC.mp ab)
 .show#[mL h,λi bJ bZ _ _=>m i bJ (),λq x=>ds (fC.mp x).symm]
def Kp(d:aE n b an w D)(A:t.cV.length<=2000){m:M V}(i:m D=((ag C (k+1) "_law_put" [⇑(b+19),⇑D.length]).G M.N) (D++[.list t.cV])):am n b an w D nP m (gg t):=by
 unfold am gg;rcases a:b' w.a2.length sY with _|_
 .trivial
 obtain⟨z,f,r,q⟩:=Yk (C:=C) (k:=k) d A (j2.mp a);show#[_,z,_,by rw[i,im,f],j,r,q]
def sX(d:aE n b an w D)(A:t.cV.length<=2000):am n b an w D nP (q6 C (k+1) (b+19) t.cV) (gg t):=Kp d A j
def sN(a:aE n b an w D){d:O}{t:Nat->M dk}{l:P bb}{e:List Nat->bb->dk->Prop}(z:am n b an w (D++[d]) e (t D.length) l):am n b an w D e ((M.new d).G t) l:=am.step (a':=w) (i0:=l) (kq d t D) j (de.app _) z
def Dj(d:aE n b an w D){Q:V}{m:Int}:am n b an w D (λan g B=>∃q,1<=m/\an[(m-1).toNat]?=I q/\B=.J [⇑q,↑hT]) (az C (k+1) ib [2] 47 (ml (b+19) Q ↑m ↑hT)) (gN m hT):=by
 unfold gN;rw[adv,jH];by_cases u:m=0
 .rw[aL u,aL u];show kx d
 rw[aS u,aS u,adw];let U:bh C .Lt ↑hT ↑1=M.N ↥(hT<1):=j;rw[U,a_];by_cases f:hT<1
 .rw[aL f,cW f];show kx d
 rw[aS f,f8 f];show am.dz λr t A=>?_;obtain⟨q,x,h,a,c⟩:=d.oK (C:=C) t A;show am.bE d.mc (am.bE a (am.bE (xL h ()) ?_));let O:bh C .GtE ↑hT ↑r.cV.length=M.N ↥((r.cV.length:Int)<=hT):=j;rw[O,a_];by_cases o:(r.cV.length:Int)<=hT
 .rw[aL o,cW o];show kx d
 rw[aS o,f8 o];rcases T:r.get hT with _|e
 .show .ab j
 show am.bE d.mc (am.bE a (am.N d #[q,t,x,j]))
theorem abD{m:Int}(z:gN m hT w=.ok x a'):a'=w/\1<=m/\∃r,w.a2[(m-1).toNat]?=I r/\r.get hT=I x:=by
 unfold gN at z;by_cases u:m=0
 .rw[aL u] at z;cases z
 rw[aS u] at z;by_cases bJ:hT<1
 .rw[aL bJ] at z;cases z
 rw[aS bJ] at z;by_cases t:1<=m
 .rcases Q:w.a2[(m-1).toNat]? with _|r
  .rw[fp (nx (.inr Q))] at z;cases z
  rw[b1 (oL t Q)] at z;by_cases bZ:(r.cV.length:Int)<=hT
  .rw[aL bZ] at z;cases z
  rw[aS bZ] at z;rcases T:r.get hT with _|e
  .rw[T] at z;cases z
  rw[T] at z;injections z;show#[j,t,r,j,T]
 .rw[fp (nx (.inl t))] at z;cases z
def Ug(z:D[m]?=I (.list vs))(u:0<=i)(x:vs[i.toNat]?=I v)(c:vs.length<=2000):aJ C ⇑m ↑i D=.ok v D:=jI i i.toNat (v' u).symm (by have:=(c5.mp x).1;omega) z x
theorem aE.Dy(d:aE n b an w D){m:Int}{q:Nat}(a:1<=m)(A:w.a2[(m-1).toNat]?=I t)(e:an[(m-1).toNat]?=I q)(O:t.get i=I x):aJ C ⇑q ↑i D=.ok ↑x D:=by obtain⟨g,f,h,_,c⟩:=d.oK (C:=C) a A;rw[e] at f;injections f;obtain⟨k,p,_⟩:=Dz O;show Ug h () p c
inductive ls(b:Nat)(an:List Nat):V->V->Prop
 |lid (i:Nat) (h:1<=i/\i<=8):ls b an (.J [↑0,↑i]) (.J [⇑(e8 b (i+2)),↑0])
 |di (m i:Int) (r:Nat) (h:1<=m) (x:an[(m-1).toNat]?=I r):ls b an (.J [↑m,↑i]) (.J [⇑r,↑i])
theorem ls.aD{E:V}(z:ls b an E v):ls b (an++gv) E v:=by
 cases z with
 |lid i z=>show .lid i z
 |di m i q z x=>show .di m i q z ((eP (c5.mp x).1).trans x)
end
variable{rs:List V}{cC:List Bool}{fT:Str}
section
variable{b:Nat}{n cw:eB}{w a':W}
inductive ke(b:Nat)(an:List Nat):List V->List Bool->List V->List V->Prop
 |nil:ke b an [] [] [] []
 |ref {c:Int} {r rs as vs:List V} {cC:List Bool} {a v:V}:(c==33)=L->ls b an v a->ke b an rs cC as vs->ke b an (.J (↑c::r)::rs) (L::cC) (a::as) (v::vs)
 |val {c:Int} {r rs as vs:List V} {cC:List Bool} {v:V}:(c==33)=ak->ke b an rs cC as vs->ke b an (.J (↑c::r)::rs) (ak::cC) (v::as) (v::vs)
theorem ke.len(z:ke b an rs cC as vs):as.length=rs.length:=by
 induction z with
 |nil=>rfl
 |ref _ _ _ w=>show aN j4 w
 |val _ _ w=>show aN j4 w
theorem ke.aD(z:ke b an rs cC as vs):ke b (an++gv) rs cC as vs:=by
 induction z with
 |nil=>show .nil
 |ref z D _ w=>show .ref z D.aD w
 |val z _ w=>show .val z w
def H9:V->Int
 |.J l=>match l with
  | ↑c::_=>c
  |_=>0
 |_=>0
def Im:V->List V
 |.J l=>l.tail
 |_=>[]
def wP(C:List O)(k W o:Nat):List V->M V->M V
 |[],K=>K
 |v::rs,K=>vy C k W o (H9 v) (Im v) (wP C k W o rs K)
def wQ(C:List O)(k o r:Nat)(N:List V):List V->M V->M V
 |[],K=>K
 |av::b,K=>s1 C k o r N av (wQ C k o r N b K)
def AC(C:List O)(o:Nat)(N:List V):List V->M V->M V
 |[],K=>K
 |av::b,K=>q8 C o N av (AC C o N b K)
section
variable{W o t:Nat}{fT m e R:V}{K:ap->M V}
theorem Po(b:List V):∀(Y:ap),(Y=B3 W fT m (.J rs) o e t/\b≠[]\/∃a,Y=mm W fT m (.J rs) o e t a)->∃a,cf (a5 C k gk [3] 45) b Y K=wQ C k o t rs b (K (mm W fT m (.J rs) o e t a)):=by
 induction b with
 |nil=>
  intro Y z;obtain⟨_,z⟩|⟨a,rfl⟩:=z
  .cases z j
  .show#[a,j]
 |cons c b w=>
  intro Y z;show rC (w _ (.inr #[c,j])) λa f=> #[a,p_ ?_ (aN (s1 C k o t rs c) f)];obtain⟨rfl,_⟩|⟨a,rfl⟩:=z
  .show adm ..
  .show adn ..
theorem Pp(b:List V):∀a:V,∃s,cf (a5 C k gk [5] 43) b (mm W fT m (.J rs) o e t a) K=AC C o rs b (K (mm W fT m (.J rs) o e t s)):=by
 induction b with
 |nil=>show λa=> #[a,j]
 |cons Y b w=>show λa=>rC (w Y) λs f=> #[s,(ado ..).trans (aN (q8 C o rs Y) f)]
def EZ(B:V):Prop:=∃c r,B=.J (↑c::r)
theorem Pn(N:List V):∀(Y:ap),(∀B∈N,EZ B)->(Y=uZ W fT m R o/\N≠[]\/∃a,Y=sG W fT m R o a)->∃a,cf (a5 C k gk [1] 47) N Y K=wP C k W o N (K (sG W fT m R o a)):=by
 induction N with
 |nil=>
  intro Y _ z;obtain⟨_,z⟩|⟨a,rfl⟩:=z
  .cases z j
  .show#[a,j]
 |cons B N w=>
  intro Y x z;obtain⟨g,q,rfl⟩:=x B (.head _);show rC (w _ (λB z=>x B (.tail _ z)) (.inr #[.J (↑g::q),j])) λa f=> #[a,p_ ?_ (aN (vy C k W o g q) f)];obtain⟨rfl,_⟩|⟨a,rfl⟩:=z
  .show adk ..
  .show adl ..
end
theorem wG{d:Nat}{h:M V}(z:D[d]?=I (.list vs))(b:vs.length<=4000000):hc C k ⇑d .app v h D=h (D.set d (.list (vs++[v]))):=by split (((l2 ⇑d v).G λa=>M.N V.none).G λa=>h) D=_;rw[hv,r0 z b];rfl
theorem BX{i:Nat}(z:1<=i/\i<=8):kW (i:Int) w=.ok (sE w i) w:=by obtain rfl|rfl|rfl|rfl|rfl|rfl|rfl|rfl:=uV z<;>rfl
inductive Fl(C:List O)(D:aG)(x:Int):V->Prop
 |mk (p:Nat) (i:Int) (h:aJ C ⇑p ↑i D=.ok ↑x D):Fl C D x (.J [⇑p,↑i])
inductive Ad(C:List O)(D:aG)(w:W)(a:V):jv V->Prop
 |ab:Ad C D w a .ab
 |ok (x:Int) (h:Fl C D x a):Ad C D w a (.ok ↑x w)
inductive EE(C:List O)(n:eB)(b:Nat)(an:List Nat)(D:aG)(a':W):V->Prop
 |mk (p:Nat) (i x:Int) (s:aG) (h:aJ C ⇑p ↑i D=.ok ↑x D) (g:dd C ⇑p ↑i ↑(x+500) D=.ok bL s) (P:aE n b an a' s) (b6:de n b an [] D s):EE C n b an D a' (.J [⇑p,↑i])
inductive tB(C:List O)(n:eB)(b:Nat)(an:List Nat)(D:aG)(a:V):jv Unit->Prop
 |ab:tB C n b an D a .ab
 |ok (a':W) (h:EE C n b an D a' a):tB C n b an D a (.ok bL a')
def Jm{m:Int}(z:1<=m):m≠0:=λQ=>cH (Q▸z) ()
theorem Zm{E:V}(d:aE n b an w D)(z:ls b an v E):Ad C D w E (mw v w):=by
 cases z with
 |lid i z=>
  let g:mw (.J [↑0,↑i]) w=((kW (i:Int)).G c1|>.G λu=>P.N ↑u) w:=j;rw[g,d6,b1 (BX z)];let c:=jI (C:=C) 0 0 j (ff _) (d.qP z) j;cases Q:sE w i with
  |int e=>rw[Q] at c;show .ok e #[_,_,c]
  |_=>show .ab
 |di m i q z x=>
  let g:mw (.J [↑m,↑i]) w=(if m=0 then(kW i).G c1|>.G λu=>P.N ↑u else(dz m).G λr=>(P.opt (r.get i)).G λu=>P.N ↑u) w:=j;rw[g,aS (Jm z)];rcases Q:w.a2[(m-1).toNat]? with _|r
  .rw[fp (nx (.inr Q))];show .ab
  rw[b1 (oL z Q)];rcases s:r.get i with _|e
  .show .ab
  show .ok e #[_,_,d.Dy z Q x s]
theorem NX{i:Nat}(d:aE n b an w D)(z:1<=i/\i<=8)(c:aJ C ⇑(e8 b (i+2)) ↑0 D=.ok ↑y D):tB C n b an D (.J [⇑(e8 b (i+2)),↑0]) (jp i (y+500) w):=by
 let h:=C_ (C:=C) (v:= ↑(y+500)) (d.qP z);let a:∀Y,(∀B N,(gX b an w B N).set (i+2) (.list [↑(y+500)])=gX b an Y B N)->Y.a2=w.a2->Y.bp=w.bp->Y.ci=w.ci->tB C n b an D (.J [⇑(e8 b (i+2)),↑0]) (.ok bL Y):=λY f o M e=>by let T:=d.sD z Y f o M e;show .ok _ #[_,_,_,_,c,h,T.1,T.2]
 obtain rfl|rfl|rfl|rfl|rfl|rfl|rfl|rfl:=uV z
 .show a _ (λg g=>j) j j j
 .show a _ (λg g=>j) j j j
 .show .ab
 .show a _ (λg g=>j) j j j
 .show .ab
 .show .ab
 .show .ab
 .show .ab
theorem NY{E:V}(d:aE n b an w D)(z:ls b an v E):tB C n b an D E (mX v w):=by
 cases z with
 |lid i z=>
  let g:mX (.J [↑0,↑i]) w=(((kW (i:Int)).G c1).G λu=>jp i (u+500)) w:=j;rw[g,d6,b1 (BX z)];let c:=jI (C:=C) 0 0 j (ff _) (d.qP z) j;cases Q:sE w i with
  |int e=>rw[Q] at c;show NX d z c
  |_=>show .ab
 |di m i q z x=>
  let g:mX (.J [↑m,↑i]) w=(if m=0 then((kW i).G c1).G λu=>jp i (u+500) else(dz m).G λr=>(P.opt (r.get i)).G λu=>oG m (r.set i (u+500))) w:=j;rw[g,aS (Jm z)];rcases Q:w.a2[(m-1).toNat]? with _|r
  .rw[fp (nx (.inr Q))];show .ab
  rw[b1 (oL z Q)];rcases s:r.get i with _|e
  .show .ab
  obtain⟨l,f,h,_,c⟩:=d.oK (C:=C) z Q;rw[x] at f;injections f;obtain⟨k,p,a,N⟩:=Dz s;let T:=d.Lj Q x (r.set i (e+500)) (by rw[N,fV];show c);rw[N] at T;show .ok _ #[q,i,e,_,d.Dy z Q x s,q9 i i.toNat (v' (fg () k)).symm (ao (mL a) (ao c ())) h a,T.1,T.2]
theorem am.WY{e:List Nat->bb->dk->Prop}{m:M dk}{v:P aq}{l:aq->P bb}{u:aq}(Q:v w=.ok u w)(z:am n b an w D e m (l u)):am n b an w D e m (v.G l):=am.wO (b1 Q) z
def sU{d:Nat}(z:D[d]?=I (.list vs)):e' C ⇑d c9 D=.ok .app D:=sV z
def iO(r:List V)(Y:Nat)(as:List V):Prop:=∀(m:Nat)(a:V),as[m]?=I a->r[Y+m]?=I a
theorem iO.aM{E:V}(z:iO a6 av (E::as)):a6[av]?=I E:=z 0 E j
theorem iO.fb{E:V}(z:iO a6 av (E::as)):iO a6 (av+1) as:=λm u l=>by rw[nC];show z (m+1) u l
theorem iO.all(r:List V):iO r 0 r:=λm u q=>by rw[em];show q
def FU{E:V}(z:a6[av]?=I E)(m:a6.length<=1000):av<=1000000:=ao (mL (c5.mp z).1) (ao m ())
def xF{E:V}(z:a6[av]?=I E)(m:a6.length<=1000):aJ C (.J a6) ↑av=M.N E:=gf _ av j (FU z m) z
def BK{d:Nat}{E:V}(N:D[d]?=I (.list a6))(z:a6[av]?=I E)(m:a6.length<=1000):aJ C ⇑d ↑av D=.ok E D:=jI _ av j (FU z m) N z
section
variable{K:M V}{o t p:Nat}{R fb:List V}{x:V}
def BI(E B:V):aJ C (.J [E,B]) ↑0=M.N E:=gf 0 0 j (ff _) j
def BJ(E B:V):aJ C (.J [E,B]) ↑1=M.N B:=gf 1 1 j () j
def ZN(a:R[av]?=I (.J (↑c::r)))(b:R.length<=1000)(m:a6[av]?=I (.J [⇑p,↑i]))(d:a6.length<=1000)(U:(c==33)=L)(N:D[o]?=I (.list a6))(A:D[t]?=I (.list fb))(e:fb.length<=100000)(T:aJ C ⇑p ↑i D=.ok x D):s1 C k o t R ↑av K D=K (D.set t (.list (fb++[x]))):=by let f:=BK (C:=C) N m d;show(a8 (sU A)).trans ?_;rw[xF a b,a_,gf (vs:= ↑c::r) 0 0 j (ff _) j,a_,iT,a_,U];show(a8 f).trans ?_;rw[BI,a_];show(a8 f).trans ?_;rw[BJ,a_];show(a8 T).trans (wG A (ao e ()))
def ZO(a:R[av]?=I (.J (↑c::r)))(b:R.length<=1000)(m:a6[av]?=I x)(d:a6.length<=1000)(U:(c==33)=ak)(N:D[o]?=I (.list a6))(A:D[t]?=I (.list fb))(e:fb.length<=100000):s1 C k o t R ↑av K D=K (D.set t (.list (fb++[x]))):=by show(a8 (sU A)).trans ?_;rw[xF a b,a_,gf (vs:= ↑c::r) 0 0 j (ff _) j,a_,iT,a_,U];show(a8 (BK (C:=C) N m d)).trans (wG A (ao e ()))
def ZP(a:R[av]?=I (.J (↑c::r)))(b:R.length<=1000)(m:a6[av]?=I (.J [⇑p,↑i]))(d:a6.length<=1000)(U:(c==33)=L)(N:D[o]?=I (.list a6))(T:aJ C ⇑p ↑i D=.ok ↑y D)(h:dd C ⇑p ↑i ↑(y+500) D=.ok bL dI):q8 C o R ↑av K D=K dI:=by let f:=BK (C:=C) N m d;unfold q8;rw[xF a b,a_,gf (vs:= ↑c::r) 0 0 j (ff _) j,a_,iT,a_,U];show(a8 f).trans ?_;rw[BI,a_];show(a8 f).trans ?_;rw[BJ,a_];show(a8 T).trans ?_;rw[add_int,a_];show(a8 f).trans ?_;rw[BI,a_];show(a8 f).trans ?_;rw[BJ,a_];show a8 h
def ZQ(a:R[av]?=I (.J (↑c::r)))(b:R.length<=1000)(U:(c==33)=ak):q8 C o R ↑av K=K:=by unfold q8;rw[xF a b,a_,gf (vs:= ↑c::r) 0 0 j (ff _) j,a_,iT,a_,U]
def acj(l:List V->P bb):(k' (L::cC) (v::vs)).G l=(mw v).G λu=>(k' cC vs).G λq=>l (u::q):=(d6 (mw v) _ l).trans (aN (P.G (mw v)) (funext λu=>d6 (k' cC vs) _ l))
def acg(l:List V->P bb):(k' (ak::cC) (v::vs)).G l=(k' cC vs).G λq=>l (v::q):=d6 (k' cC vs) _ l
def Fy(C:List O)(k b:Nat)(U q:eB)(i:List Nat)(A:W)(e:List Nat->bb->V->Prop)(h:M V)(o c:Nat)(H r N:List V)(a:List Bool)(as f:List V):Prop:=∀(av:Nat)(fb:List V)(D:aG)(l:List V->P bb),aE U b i A D->iO H av N->iO r av as->D[o]?=I (.list r)->D[c]?=I (.list fb)->fb.length+N.length<=100000->
 (∀d y,aE U b i A y->y[o]?=I (.list r)->y[c]?=I (.list (fb++d))->am q b i A y e h (l d))->am q b i A D e (wQ C k o c H (g2 av N.length) h) ((k' a f).G l)
def acd{T:Nat}(z:fb.length+(m+1)<=T):(fb++[x]).length+m<=T:=uS z
theorem ach{e:List Nat->bb->V->Prop}(B:R.length<=1000)(m:a6.length=R.length)(J:o≠t)(ae:t∈n.cI)(T:t∈cw.X)(z:ke b an rs cC as vs):Fy C k b n cw an w e K o t R a6 rs cC as vs:=by
 let O:a6.length<=1000:=m▸B;let r:∀{rs as vs:List V}{cC:List Bool}{Y:Nat}{a:List V}{p:aG}{l:List V->P bb}{u:V}{n0:Nat},Fy C k b n cw an w e K o t R a6 rs cC as vs->aE n b an w p->iO R (Y+1) rs->iO a6 (Y+1) as->p[o]?=I (.list a6)->p[t]?=I (.list a)->a.length+(rs.length+1)<=100000->(∀H y,aE n b an w y->y[o]?=I (.list a6)->y[t]?=I (.list (a++H))->am cw b an w y e K (l H))->am cw b an w (p.set t (.list (a++[u]))) e (wQ C k o t R (g2 (Y+1) rs.length) K) ((k' cC vs).G λq=>l (u::q)):=λ{rs as vs cC Y a p l u n0} ac d f aa N A c s=>ac (Y+1) (a++[u]) _ _ (d.Lh ae _) f aa ((gh J).trans N) (iF (c5.mp A).1) (acd c) λH y E b g=>s (u::H) y E b (g.trans (by rw[ez];rfl))
 induction z with
 |nil=>show λY a p l d _ _ N A _ s=>s [] p d N (by rw[dS];show A)
 |ref U h x ac=>
  intro Y a p l d f aa N A c s;rw[acj];let fH:=Zm (C:=C) d h;generalize Q:mw _ w=af at fH;cases fH with
  |ab=>show .ab (fp Q)
  |ok u D=>show am.WY Q ?_;obtain⟨v,i,M⟩:=D;show am.step (a':=w) (ZN f.aM B aa.aM O U N A (ao (bv ..) c) M) j (de.C8 T _) (r (n0:=0) ac d f.fb aa.fb N A c s)
 |val U x ac=>intro Y a p l d f aa N A c s;rw[acg];show am.step (a':=w) (ZO f.aM B aa.aM O U N A (ao (bv ..) c)) j (de.C8 T _) (r (n0:=0) ac d f.fb aa.fb N A c s)
def Np(C:List O)(b:Nat)(U:eB)(i:List Nat)(e:List Nat->bb->V->Prop)(h:M V)(l:P bb)(o:Nat)(H r N:List V)(a:List Bool)(as c:List V):Prop:=∀(av:Nat)(w:W)(D:aG),aE U b i w D->iO H av N->iO r av as->D[o]?=I (.list r)->(∀a' y,aE U b i a' y->am U b i a' y e h l)->am U b i w D e (AC C o H (g2 av N.length) h) ((pi a c).G λd=>l)
def N2(l:Unit->P bb):(pi (L::cC) (v::vs)).G l=(mX v).G λa=>(pi cC vs).G l:=d6 (mX v) _ l
theorem N0{e:List Nat->bb->V->Prop}{l:P bb}(B:R.length<=1000)(m:a6.length=R.length)(g:o∈n.cI)(a:o∉n.X)(z:ke b an rs cC as vs):Np C b n an e K l o R a6 rs cC as vs:=by
 induction z with
 |nil=>show λY A p d y y y s=>s A p d
 |ref U h x w=>
  intro Y A p d f c N s;rw[N2];let fH:=NY (C:=C) d h;generalize Q:mX _ A=t at fH;cases fH with
  |ab=>show .ab (fp Q)
  |ok H D=>obtain⟨v,i,u,k,M,j,r,q⟩:=D;show am.step (ZP f.aM B c.aM (m▸B) U N M j) (b1 Q) q (w (Y+1) H k r f.fb c.fb ((q.fr o (c5.mp N).1 (.inr (d.m' o g).1) (d.m' o g).2.2 a).trans N) s)
 |val U x w=>intro Y A p d f c N s;show am.eo (congrFun (ZQ f.aM B U) p) ?_;show w (Y+1) A p d f.fb c.fb N s
end
theorem aE.vu(d:aE n b an w D)(J:List Nat):aE #[n.m,n.cI,J] b an w D:=by obtain⟨Q,h,e,a,p⟩:=d;show#[Q,h,e,a,p]
def Wt{d:O}{f:Nat->M dk}{l:P bb}{e:List Nat->bb->dk->Prop}(z:am #[n.m,n.cI,D.length::n.X] b an w (D++[d]) e (f D.length) l):am n b an w D e ((M.new d).G f) l:=lY.map z (λg J #[a,N,x,s,c,t,E]=> #[a,N,x,s,c,t.vu n.X,E.cut j]) λJ #[N,x,s,t,E]=> #[N,x,s,t.vu n.X,E.cut j]
def i'(C:List O)(k:Nat)(Q:ah):Prop:=∀n b an w D,aE n b an w D->am n b an w D gG (ag C k cj [⇑(b+19),ax Q]) (eval Q)
def wx(C:List O)(k:Nat)(v:ah):Prop:=∀n b an w D,aE n b an w D->am n b an w D (ls b) (ag C k ib [⇑(b+19),ax v]) (hX [v])
def tA(C:List O)(k:Nat)(Q:ah):Prop:=(∃p,Q=.mk .ref [p]/\wx C k p)\/(bG Q.aM=ak/\i' C k Q/\Q.aM.bF Q.dK.length=L)
theorem PI(z:bP):(z.code==33)=bG z:=by cases z<;>rfl
inductive Fq(e:ah):Prop
 |mk (c:Int) (r:List V) (f:ax e=.J (↑c::r)) (h:(c==33)=bG e.aM):Fq e
theorem tA.shape(z:tA C k e):Fq e:=by
 obtain⟨v,rfl,_⟩|⟨a,_,o⟩:=z
 .show#[33,[↑21,ax v],j,j]
 .obtain⟨z,H⟩:=e;obtain⟨q,f⟩:=n9 (h:=z) (aa:=H) o;show#[z.code,_,aN V.J f,PI z]
def Nq(C:List O)(k b:Nat)(U:eB)(a:List Nat->bb->V->Prop)(h:M V)(o:Nat)(H:List ah):Prop:=∀(ad:List V)(an:List Nat)(w:W)(D:aG)(l:List V->P bb),aE U b an w D->D[o]?=I (.list ad)->ad.length+H.length<=100000->
  (∀as vs gv a' y,aE U b (an++gv) a' y->ke b (an++gv) (bi H) (H.map λe=>bG e.aM) as vs->y[o]?=I (.list (ad++as))->am U b (an++gv) a' y a h (l vs))->am U b an w D a (wP C k (b+19) o (bi H) h) ((cR H).G l)
def w_(l:List V->P bb):(cR (e::aa)).G l=(eval e).G λB=>(cR aa).G λO=>l (B::O):=(d6 (eval e) _ l).trans (aN (P.G (eval e)) (funext λu=>d6 (cR aa) _ l))
theorem Oe{e:List Nat->bb->V->Prop}{h:M V}{d:Nat}(ai:d∈n.cI)(av:d∈n.X)(ab:List ah)(U:∀Q∈ab,tA C k Q):Nq C k b n e h d ab:=by
 induction ab with
 |nil=>intro ad i A p l ac N c s;have:=s [] [] [] A p (by rw[dS];show ac) .nil (by rw[dS];show N);rw[dS] at this;show this
 |cons Q ab w=>
  intro ad i A p l ac N c s;obtain⟨g,aj,f,af⟩:=(U Q (.head _)).shape;let a:g_ #[n.m,n.cI,[]] n:= #[bq _,λ_ z=>z,nofun];let Y:∀(E B:V)(u:List Nat)(H:W)(aa:aG),(bG Q.aM=L->ls b (i++u) B E)->(bG Q.aM=ak->E=B)->aE n b (i++u) H aa->de #[n.m,n.cI,[]] b i u p aa->am n b (i++u) H aa e (hc C k ⇑d .app E (wP C k (b+19) d (bi ab) h)) ((cR ab).G λO=>l (B::O)):=λE B u H aa D aw T ap=>by
   let r:=(ap.fr d (c5.mp N).1 (.inr (ac.m' d ai).1) (ac.m' d ai).2.2 nofun).trans N;show am.step (a':=H) (wG r (ao (bv ..) (ao c ()))) j (de.C8 av _) ?_;show w (λQ z=>U Q (.tail _ z)) (ad++[E]) (i++u) H _ _ (T.Lh ai _) (iF (c5.mp r).1) (uS c) λar O an az ay aq al o=>?_;show(ez i u an).symm▸s (E::ar) (B::O) (u++an) az ay (by rw[<-ez];show aq) ?_ (o.trans (by rw[ez];rfl));split ke b _ (ax Q::bi ab) (bG Q.aM::_) _ _;rw[f,<-ez];rcases x:bG Q.aM with _|_
   .obtain rfl:=aw x;show .val (af.trans x) al
   show .ref (af.trans x) (D x).aD al
  let y:aE #[n.m,n.cI,[]] b i A p:=ac.vu [];rw[w_];split am n b i A p e (vy C k (b+19) d (H9 (ax Q)) (Im (ax Q)) _) _;rw[f];show am.bE (sU N) ?_;split am n b i A p e ((bh C .Eq ↑g ↑33).G _) _;rw[iT,a_,af];obtain⟨v,rfl,t⟩|⟨x,as,_⟩:=U Q (.head _)
  .let ae:V.J (↑g::aj)=.J [↑33,↑21,ax v]:=f.symm;injection ae with ae
   injection ae with aA ae
   split am n b i A p e ((aJ C (.J (↑g::aj)) ↑2).G _) _;rw[ae,gf (vs:=[_,_,ax v]) 2 2 j () j,a_];show am.G (t _ b i A p y) (λu E B H aa _ D T q=>Y B E u H aa (λ_=>D) (λz=>by cases z) (T.le a) q) a
  .rw[x];split am n b i A p e ((ag C k cj [⇑(b+19),.J (↑g::aj)]).G _) _;rw[<-f];show am.G (as _ b i A p y) (λu E B H aa _ D T q=>Y B E u H aa (λz=>by rw[x] at z;cases z) (λ_=>D) (T.le a) q) a
theorem K6{id:Int}(d:aE n b an w D):am n b an w D nP ((bQ C .Mod ↑id ↑9).G λq=>(bh C .Eq q ↑8).G λ
 |true=>hl C (k+1) (b+19) 3 (yH C (k+1) (b+19) ↑id)
 |false=>yH C (k+1) (b+19) ↑id) (if id%9=8 then eY 3 else jK.G λm=>P.N (m+id)):=by
 rw[mod_int (),a_,iT,a_];by_cases z:id%9=8
 .rw[aL z,z,fh];show kx d
 .rw[aS z,beq_eq_false_iff_ne.mpr z];show Jc d (am.N d j)
def ZR(d:aE n b an w D){id:Int}{t c:V}:am n b an w D nP ((M.new (.list [])).G λe=>az C (k+1) gk [1] 48 (uZ (b+19) (.str fT) (.J [t,↑id,c]) (.J []) e)) ((lF (.cl fT id [])).G λi=>if id%9=8 then eY 3 else jK.G λm=>P.N (m+id)):=by
 show sN d ?_;rw[adh];let T:=d.app [O.list []];show sN T ?_;let v:=T.app [O.list []];show am.G (Cq v (row:=.cl fT id []) #[_,j,dU _ _,T.r4,λz=>?_]) (λu E B h g i f a q=>K6 a) og;obtain z|z:=d9.mp z
 .obtain⟨_,_,H⟩:=T.rc;show hp _ (H.jn _ z).2
 .show hp _ (T.m' _ z).2.1
theorem K9(U:∀Q∈aa,tA C (k+1) Q)(l:aa.length<=1000)(d:aE n b an w D){id:Int}{ac ae:V}:am n b an w D nP (ag C (k+2) gk [⇑(b+19),.str fT,.J [ac,↑id,ae],.J (bi aa)]) ((cR aa).G λO=>run fT id (aa.map λQ=>bG Q.aM) O):=by
 rw[adg];obtain u|u:=afu aa.length
 .obtain rfl:=vO.mp u;show ZR d
 .let r:bi aa≠[]:=λz=>hp 0 (by rw[<-iV,z] at u;show u);let ay:g2 0 aa.length≠[]:=λz=>by
   obtain _|⟨_,q⟩:=aa
   .show r j
   .cases z
  let c:(bi aa).length<=1000:=by rw[iV];show l
  let aj:e_ (.J (bi aa))=M.N ↑aa.length:=by rw[uT (ao c ()),iV]
  show Ws d ?_;let T:=d.JH (.list []);let p:∀B∈bi aa,EZ B:=λB x=>by rw[w4] at x;obtain⟨Q,ax,rfl⟩:=tj.mp x;obtain⟨g,q,z,_⟩:=(U Q ax).shape;show#[g,q,z]
  obtain⟨ap,f⟩:=Pn (C:=C) (k:=k+1) (W:=b+19) (o:=D.length) (fT:=.str fT) (m:=.J [ac,↑id,ae]) (R:=.J (bi aa)) (K:=az C (k+1) gk [1] 48) (bi aa) _ p (.inl #[j,r]);rw[f];show Oe (n:= #[n.m,D.length::n.cI,D.length::n.X]) (.head _) (.head _) aa U [] an w _ _ T (dU _ _) (ao (ds (em _)) (ao l ())) λaH O al H ab v i af=>?_;let ai:=i.len;rw[adi];show Wt ?_;let aB:D.length≠ab.length:=iG (c5.mp af).1;rw[aj,a_,vt l,a_];obtain⟨aF,av⟩:=Po (C:=C) (k:=k+1) (W:=b+19) (o:=D.length) (t:=ab.length) (fT:=.str fT) (m:=.J [ac,↑id,ae]) (e:=ap) (rs:=bi aa) (K:=az C (k+1) gk [3] 46) (g2 0 aa.length) _ (.inl #[j,ay]);rw[av,<-iV aa];show ach (n:= #[n.m,ab.length::D.length::n.cI,ab.length::D.length::n.X]) c ai aB (.head _) (.head _) i 0 [] _ _ (v.JH (.list [])) (iO.all _) (iO.all _) ((eP (c5.mp af).1).trans af) (dU _ _) (ao (ds (em _)) (ao c ())) λaC h bH ah aw=>?_;rw[adj];show am.le (n:= #[n.m,D.length::n.cI,[]]) ?_ #[bq _,λ_ z=>z,nofun];let a:aE #[n.m,D.length::n.cI,[]] b (an++al) H h:=(bH.le #[bq _,λ_ z=>.tail _ z,λ_ z=>z]:aE #[n.m,D.length::n.cI,ab.length::D.length::n.X] b (an++al) H h).vu [];show am.G (Cq a (row:=.cl fT id aC) #[_,j,aw,(bH.m' _ (.head _)).1,λz=>(d9.mp z).elim (bH.m' _ (.head _)).2.2 λz=>hp _ (v.m' _ z).2.1]) (λaI E B aG A _ aJ ar aq=>?_) og;let aA:=(aq.fr D.length (c5.mp ah).1 (.inr (a.m' _ (.head _)).1) (a.m' _ (.head _)).2.2 nofun).trans ah;rw[aj,a_,vt l,a_];obtain⟨aK,s⟩:=Pp (C:=C) (k:=k+1) (W:=b+19) (o:=D.length) (t:=ab.length) (fT:=.str fT) (m:=.J [ac,↑id,ae]) (e:=ap) (rs:=bi aa) (K:=az C (k+1) gk [5] 44) (g2 0 aa.length) aF;rw[s,<-iV aa];show N0 (n:= #[n.m,D.length::n.cI,[]]) c ai (.head _) nofun i.aD 0 aG A ar (iO.all _) (iO.all _) aA λY y as=>K6 as
end
variable{cz:List (Int×(Int×V))}
section
variable{b:Nat}{n cw:eB}{w a':W}
def vi(A:Str):Prop:=A="+"\/A="-"\/A="/"\/A="<"\/A="=="
def pI{r:M V}(z:bh C .Eq u v=M.N L):aV C u v r B=r:=by unfold aV;rw[z,a_]
def iv{r:M V}(z:bh C .Eq u v=M.N ak):aV C u v r B=B:=by unfold aV;rw[z,a_]
def T2{r:M V}{q:Bool}(z:bh C .Eq u v=M.N q):aV C u v r B=cond q r B:=by
 cases q
 .show iv z
 .show pI z
theorem G_(z:¬y=0):bQ C .FloorDiv ↑x ↑y=cond (c7 x&&c7 y) (M.N ↑(x.fdiv y)) M.ab:=by
 let Q:bQ C .FloorDiv ↑x ↑y=M.opt ((pk .FloorDiv x y).map .int):=j;let d:pk .FloorDiv x y=match c7 x&&c7 y&& !↥(y=0) with|true=>I (x.fdiv y)|false=>au:=j
 rw[Q,d,f8 z];cases c7 x&&c7 y<;>rfl
theorem KI(d:aE n b an w D){A:Str}(a:vi A):am n b an w D nP (ag C (k+2) "_law_reckon" [⇑(b+19),.str A,↑x,↑y]) (lK A x y):=by
 rw[adf];obtain rfl|rfl|rfl|rfl|rfl:=a
 .rw[pI (by funext D;rfl'),add_int,a_];have:lK "+" x y=P.N (x+y):=by rfl'
  show am.N d j
 .rw[iv (by funext D;rfl'),pI (by funext D;rfl'),sub_int,a_];have:lK "-" x y=P.N (x-y):=by rfl'
  show am.N d j
 .rw[iv (by funext D;rfl'),iv (by funext D;rfl'),iv (by funext D;rfl'),iv (by funext D;rfl'),jH];have:lK "/" x y=if y=0 then eY 5 else if c7 x&&c7 y then P.N (x.fdiv y) else P.ab:=by rfl'
  rw[this];by_cases z:y=0
  .rw[aL z,aL z];show kx d
  .rw[aS z,aS z,G_ z];rcases h:c7 x&&c7 y with _|_
   .show .ab j
   show am.N d j
 .rw[iv (by funext D;rfl'),iv (by funext D;rfl'),pI (by funext D;rfl')];have:lK "<" x y=P.N (if x<y then 1 else 0):=by rfl'
  let U:bh C .Lt ↑x ↑y=M.N ↥(x<y):=j;rw[this,U,a_];by_cases z:x<y
  .rw[aL z,cW z];show am.N d j
  .rw[aS z,f8 z];show am.N d j
 .rw[iv (by funext D;rfl'),iv (by funext D;rfl'),iv (by funext D;rfl'),pI (by funext D;rfl'),jH];have:lK "==" x y=P.N (if x=y then 1 else 0):=by rfl'
  rw[this];by_cases z:x=y
  .rw[aL z,aL z];show am.N d j
  .rw[aS z,aS z];show am.N d j
theorem PE{a B:Int}:bh C .Eq (cU x y) (cU a B)=M.N (x==a&&(y==B&&L)):=by rfl
def yi:aJ C (cU x y) ↑0=M.N ↑x/\aJ C (cU x y) ↑1=M.N ↑y:= #[gf 0 0 j () j,gf 1 1 j () j]
def wH{e:List Nat->bb->V->Prop}{m:M V}{v:P Int}{l:Int->P bb}(z:am n b an w D nP m v)(s:∀u i Y y,v w=.ok i Y->aE n b (an++u) Y y->am n b (an++u) Y y e (K ↑i) (l i)):am n b an w D e (m.G K) (v.G l):=am.G z (λu E B H a Q q T c=>by rw[q];show s u E H a Q T) og
def gW{e:List Nat->bb->V->Prop}{m:M V}{v:P V}{l:V->P bb}(z:am n b an w D gG m v)(s:∀u B Y y,v w=.ok B Y->aE n b (an++u) Y y->am n b (an++u) Y y e (K B) (l B)):am n b an w D e (m.G K) (v.G l):=am.G z (λu E B H a Q q T c=>by rw[q];show s u E H a Q T) og
theorem Va{A:Str}(a:vi A)(d:aE n b an w D)(r:A≠"=="):am n b an w D gG (aV C (.str A) (.str "<") (M.N ↑x) (M.N (.J [↑1,↑x]))) (P.N (if A="<" then↑x else cU 1 x)):=by
 obtain rfl|rfl|rfl|rfl|rfl:=a
 .rw[iv (by funext D;rfl'),aS ()];show am.N d j
 .rw[iv (by funext D;rfl'),aS ()];show am.N d j
 .rw[iv (by funext D;rfl'),aS ()];show am.N d j
 .rw[pI (by funext D;rfl'),aL j];show am.N d j
 .cases r j
theorem I5{A:Str}(a:vi A)(d:aE n b an w D)(r:A≠"=="):am n b an w D gG (aV C (.str A) (.str "<") (M.N ↑0) (M.N (.J [↑0,↑0]))) (P.N (if A="<" then↑0 else cU 0 0)):=by
 obtain rfl|rfl|rfl|rfl|rfl:=a
 .rw[iv (by funext D;rfl'),aS ()];show am.N d j
 .rw[iv (by funext D;rfl'),aS ()];show am.N d j
 .rw[iv (by funext D;rfl'),aS ()];show am.N d j
 .rw[pI (by funext D;rfl'),aL j];show am.N d j
 .cases r j
theorem Vb(d:aE n b an w D){A:Str}(c:vi A){a B:Int}:am n b an w D gG (ag C (k+3) "_law_lifted" [⇑(b+19),.str A,cU x y,cU a B]) (mi A (x,y) (a,B)):=by
 rw[ac3];by_cases V:A="=="
 .subst V;rw[pI (by funext D;rfl'),T2 PE];have:mi "==" (x,y) (a,B)=P.N ↑(if(x,y)=(a,B) then 1 else 0):=by unfold mi;rw[aL j]
  rw[this];by_cases z:x=a
  .by_cases o:y=B
   .subst z;subst o;rw[aL j,fh,fh];show am.N d j
   .rw[beq_eq_false_iff_ne.mpr o,aS (λQ=>o (afS Q).2),afo,y8];show am.N d j
  .rw[beq_eq_false_iff_ne.mpr z,aS (λQ=>z (afS Q).1),afo];show am.N d j
 .let O:bh C .Eq (.str A) (.str "==")=M.N ak:=by
   obtain rfl|rfl|rfl|rfl|rfl:=c
   .rfl'
   .rfl'
   .rfl'
   .rfl'
   .cases V j
  rw[iv O];let g:mi A (x,y) (a,B)=if x=0\/a=0 then P.N (if A="<" then↑0 else cU 0 0) else(lK A y B).G λn=>P.N (if A="<" then↑n else cU 1 n):=by unfold mi;rw[aS V]
  rw[g,yi.1,a_,jH];by_cases T:x=0
  .rw[aL T,aL (.inl T)];show I5 c d V
  .rw[aS T,yi.1,a_,jH];by_cases f:a=0
   .rw[aL f,aL (.inr f)];show I5 c d V
   .rw[aS f,aS (λz=>z.elim T f)];unfold I3;rw[yi.2,a_,yi.2,a_];show wH (KI d c) λu i H h l e=>Va c e V
theorem BD(B:V):(∃i,B= ↑i/\c1 B=P.N i)\/c1 B=P.ab:=by
 cases B with
 |int i=>show .inl #[i,j,j]
 |_=>show .inr j
theorem Xc(B:V):(∃u e,B=cU u e/\lH B=P.N (u,e))\/lH B=P.ab:=by
 cases B with
 |J T=>
  obtain _|⟨E,_|⟨y,_|_⟩⟩:=T
  .show .inr j
  .show .inr j
  .obtain⟨u,rfl,_⟩|z:=BD E
   .obtain⟨e,rfl,_⟩|z:=BD y
    .show .inl #[u,e,j,j]
    .show .inr (funext λA=>fp (m:=c1 y) (congrFun z A))
   .show .inr (funext λA=>fp (m:=c1 E) (congrFun z A))
  .show .inr j
 |_=>show .inr j
def hi{e:List Nat->bb->dk->Prop}{m:M dk}{l:Int->P bb}(z:∀i,v= ↑i->am n b an w D e m (l i)):am n b an w D e m ((c1 v).G l):=by
 obtain⟨i,f,o⟩|o:=BD v
 .rw[o];show z i f
 .rw[o];show .ab j
def sS{a:List Nat->bb->dk->Prop}{m:M dk}{l:Int×Int->P bb}(z:∀u e,v=cU u e->am n b an w D a m (l (u,e))):am n b an w D a m ((lH v).G l):=by
 obtain⟨u,e,f,o⟩|o:=Xc v
 .rw[o];show z u e f
 .rw[o];show .ab j
theorem am.pG{m:M V}{v:P Int}(z:am n b an w D nP m v):am n b an w D gG m (v.G λi=>P.N ↑i):=by
 unfold am at z|-;cases Q:v w with
 |ab=>rw[fp Q];trivial
 |exc H=>rw[fP Q];rw[Q] at z;show z
 |ok E H=>rw[b1 Q];rw[Q] at z;obtain⟨B,a,u,Q,q,P,g⟩:=z;show#[B,a,u,Q,q,P,g]
theorem OS(d:aE n b an w D){a:Int}:am n b an w D gG (ag C (k+3) "_law_boxed" [⇑(b+19),↑a,v]) (r6 a v):=by
 show am.eo (congrFun (L7 ..) D) (am.eo d.HZ (oj (λz=>sS λu e x=>?_) λz=>am.eo d.xm (oj (λE=>sS λu e x=>?_) λE=>?_)))
 .subst x;show am.bE (v:= ↑u) j (DJ (λT=>am.N d j) λT=>am.bE (v:= ↑e) j (am.ps (am.eo (congrFun (L7 ..) D) ?_)));show am.eo d.HZ ?_;show am.eo d.xm ?_;show(sX d (t:=.n e) (cc j)).pG
 .subst x;show(sX d (t:=.s u e) (cc j)).pG
 .by_cases B:a=7
  .rw[aL B];show hi λi x=>?_;subst x;show(sX d (t:=.n i) (cc j)).pG
  .rw[aS B];show .ab j
def s_:cr->Str
 |.c _=>"c"|.a _=>"a"|.n _=>"n"|.s _ _=>"s"|.f _ _=>"f"
theorem ZI(r:cr):r.cV[0]?=I (.str (s_ r)):=by cases r<;>rfl
theorem aE.Dt(d:aE n b an w D){p:Int}{q:Nat}(h:D[q]?=I (.list t.cV)):aJ C ⇑q ↑0 D=.ok (.str (s_ t)) D:=jI 0 0 j () h (ZI t)
def aeb(d:aE n b an w D){g m:Int}(i:m≠0):am n b an w D gG (yZ C (k+1) (b+19) ↑g ↑m) (te g m):=by
 unfold yZ te;rw[aS i];show am.dz λr t A=>?_;obtain⟨q,x,h,J,H⟩:=d.oK (C:=C) t A;show am.bE d.mc (am.bE J (am.bE (d.Dt (p:=m) h) (am.eo d.xm ?_)));rw[jH];let y:∀(u:Str)(l:Bool)(v:V),bh C .NotEq (.str (s_ r)) (.str u)=M.N l->(l=ak->r.cV[1]?=I v)->am n b an w D gG ((bh C .NotEq (.str (s_ r)) (.str u)).G λ|true=>hl C (k+1) (b+19) 7 ((aJ C ⇑q ↑1).G M.N)|false=>(aJ C ⇑q ↑1).G M.N) (match l with|true=>eY 7|false=>P.N v):=λu l v z o=>by
  rw[z,a_];obtain _|_:=l
  .show am.bE (jI 1 1 j () h (o j)) (am.N d j)
  show kx d
 by_cases E:g=18
 .rw[aL E];cases r with
  |s u e=>dsimp only;rw[aL E];show y "s" ak _ (by funext D;rfl') (λO=>j)
  |n B=>dsimp only;rw[aL E];show y "s" L .none (by funext D;rfl') nofun
  |c B=>show y "s" L .none (by funext D;rfl') nofun
  |a B=>show y "s" L .none (by funext D;rfl') nofun
  |f u e=>show y "s" L .none (by funext D;rfl') nofun
 .rw[aS E];cases r with
  |s u e=>dsimp only;rw[aS E];show y "n" L .none (by funext D;rfl') nofun
  |n B=>dsimp only;rw[aS E];show y "n" ak _ (by funext D;rfl') (λO=>j)
  |c B=>show y "n" L .none (by funext D;rfl') nofun
  |a B=>show y "n" L .none (by funext D;rfl') nofun
  |f u e=>show y "n" L .none (by funext D;rfl') nofun
theorem aeL{P:Int->Prop}{A:Int}(z:1<=A/\A<=7)(f:P 1)(o:P 2)(M:P 3)(b:P 4)(O:P 5)(g:P 6)(B:P 7):P A:=by
 obtain⟨Y,rfl⟩:=zr (fg () z.1);show match Y,qc.mp z.1,qc.mp z.2 with
  |0,E,_=>cH E ()
  |1,_,_=>f
  |2,_,_=>o
  |3,_,_=>M
  |4,_,_=>b
  |5,_,_=>O
  |6,_,_=>g
  |7,_,_=>B
  |U+8,_,y=>cH (ao (fE 8 U) y) ()
theorem acz(d:aE n b an w D){f s a m:Int}{g:V}(q:1<=s/\s<=7):am n b an w D gG (ag C (k+4) nz [⇑(b+19),.J [↑19,↑f,.J (g:: ↑a::r),↑s,↑m],v]) (p6 a f s v):=by
 show aeL (P:=λs=>am n b an w D gG (ag C (k+4) nz [⇑(b+19),.J [↑19,↑f,.J (g:: ↑a::r),↑s,↑m],v]) (p6 a f s v)) q ?_ ?_ ?_ ?_ ?_ ?_ ?_
 .show am.eo (congrFun (acH ..) D) (hi λi x=>am.N d x)
 .show am.eo (congrFun (acI ..) D) (hi λi x=>am.N d x)
 .show am.eo (congrFun (acJ ..) D) (hi λi x=>?_);subst x;let U:bh C .NotEq ↑i ↑0=M.N (!(i==0)):=j;rw[U,a_];by_cases z:i=0
  .rw[aL z,z];show am.N d j
  .rw[aS z,beq_eq_false_iff_ne.mpr z];show am.dz λl t A=>?_;obtain⟨r,y,h,o,c⟩:=d.oK (C:=C) t A;show am.bE d.mc (am.bE o (am.bE (d.Dt (p:=i) h) ?_));let G:bh C .NotEq (.str (s_ l)) (.str "c")=M.N (!mg l):=by cases l<;>(funext D;rfl')
   rw[G,a_];obtain _|_:=mg l
   .show kx d
   show am.N d j
 .show am.eo (congrFun (acK ..) D) (OS d).ps
 .show am.eo (congrFun (acL ..) D) (hi λi x=>?_);subst x;rw[jH];by_cases z:i=0
  .rw[aL z];unfold te;rw[aL z];show kx d
  .rw[aS z];show aeb d z
 .show am.eo (congrFun (acM ..) D) (hi λi x=>am.N d (by rw[x];rfl))
 .show am.eo (congrFun (acN ..) D) (sS λu e x=>?_);subst x;show am.bE (v:= ↑u) j (oj (λz=>kx d) λz=>am.bE (v:= ↑e) j (am.N d j))
def sI(u e:Int)(B:aq)(q:List (Int×aq)):d4 u ((e,B)::q)=(match↥(u=e) with|true=>I B|false=>d4 u q):=j
def pV(u e:Int)(B a:aq)(q:List (Int×aq)):d' u B ((e,a)::q)=(match↥(u=e) with|true=>(e,B)::q|false=>(e,a)::d' u B q):=j
theorem gF.look(z:gF es cz){n:Int}(c:d4 i cz=I (n,u)):(d4 i es=I (.J [↑n,u])/\0<=n)\/∃m,d4 i es=I (.J [↑(-1),↑m])/\u=ik n m:=by
 induction z with
 |nil=>cases c
 | @same Y p B es cz a _ w=>
  rw[sI] at c|-;rcases Q: ↥(i=Y) with _|_
  .rw[Q] at c;show w c
  rw[Q] at c;injections c;show .inl #[j,a]
 | @nd Y p m es cz _ w=>
  rw[sI] at c|-;rcases Q: ↥(i=Y) with _|_
  .rw[Q] at c;show w c
  rw[Q] at c;injections c;show .inr #[m,j,j]
theorem gF.len(z:gF es cz):es.length=cz.length:=by
 induction z with
 |nil=>rfl
 |same _ _ w=>show aN j4 w
 |nd _ w=>show aN j4 w
theorem gF.fix(z:gF es cz){n:Int}(c:d4 i cz=I (n,u))(a:0<=n):gF (d' i (.J [↑n,u]) es) cz:=by
 induction z with
 |nil=>cases c
 | @same Y p B es cz bJ bZ w=>
  rw[sI] at c;rw[pV];rcases Q: ↥(i=Y) with _|_
  .rw[Q] at c;show .same bJ (w c)
  rw[Q] at c;injections c;show .same bJ bZ
 | @nd Y p m es cz bZ w=>
  rw[sI] at c;rw[pV];rcases Q: ↥(i=Y) with _|_
  .rw[Q] at c;show .nd (w c)
  rw[Q] at c;injections c;show .same a bZ
theorem Vy:∀b:List (Int×V),d4 i (d' i v b)=I v:=by
 intro b
 induction b with
 |nil=>split (match↥(i=i) with|true=>I v|false=>au)=I v;rw[cW j]
 |cons r b w=>
  obtain⟨Y,a⟩:=r;rw[pV];rcases Q: ↥(i=Y) with _|_
  .rw[sI,Q];show w
  rw[sI,Q]
theorem xG(z:D[m]?=I (.id es))(x:d4 i es=I v):aJ C ⇑m ↑i D=.ok v D:=by
 split (match dx C D ⇑m with
   |some (.list O)=>match↥(0<=i)&&aU i.toNat with
    |true=>M.opt O[i.toNat]?
    |false=>M.ab
   |some (.id es)=>M.opt (d4 i es)
   |_=>M.ab:M V) D=_
 have:dx C D ⇑m=I (.id es):=z;rw[this];simp only[x];rfl
theorem C9(z:D[m]?=I (.id es))(V:es.length<=4000000):dd C ⇑m ↑i v D=.ok bL (D.set m (.id (d' i v es))):=by unfold dd M.get;dsimp only;rw[z];simp only[g0 V];rfl
def Tq{n:Int}(z:d4 i w.ci=I (n,u)):jf n i w=.ok u w:=by unfold jf;rw[z];dsimp only;rw[aL j]
theorem abn(d:aE n b an w D){q:Int}(u:0<=q):am n b an w D gG (ag C (k+2) oT [⇑(b+19),.J [↑91,↑q,↑i]]) (jf q i):=by
 rcases c:d4 i w.ci with _|l
 .show .ab (by unfold jf;rw[c])
 obtain⟨Y,z⟩:=l;by_cases s:Y=q
 .subst s;let x:=Tq (w:=w) c;rw[adt,adu];obtain⟨⟨B,t,H,g,y⟩,h,e,a,p⟩:=d;let d:aE n b an w D:= #[#[B,t,H,g,y],h,e,a,p];obtain⟨_,y⟩|⟨o,rfl,y⟩:=y
  .rw[y] at c;cases c
  let f:D[b+1]?=I (.id o):=H.jF 1 ();let O:=y.len;obtain⟨E,_⟩|⟨m,E,rfl⟩:=y.look c
  .show am.bE d.ss (am.bE (xG f E) ?_);rw[L8,L9];let U:bh C .Lt ↑Y ↑0=M.N ↥(Y<0):=j;let G:bh C .NotEq ↑Y ↑Y=M.N (!(Y==Y)):=j;rw[U,a_,f8 ()];rw[G,a_,fh];show am.bE d.ss (am.bE (xG f E) ?_);show am.step (a':=w) (i0:=P.N z) j x de.refl (am.N d j)
  .show am.bE d.ss (am.bE (xG f E) ?_);rw[L8,L9];let U:bh C .Lt ↑(-1) ↑0=M.N L:=j;rw[U,a_];show am.bE (Aq d) (am.bE d.ss ?_);show am.step (a':=w) (i0:=P.N (ik Y m)) (a8 (C9 f ())) x (de.oH (iw:=1) () _) ?_;let v:aE n b an w (D.set (e8 b 1) (.id (d' i (.J [↑Y,ik Y m]) o))):= #[#[B,_,H.upd (iw:=1) () j j,g.oH (),.inr #[_,j,y.fix c u]],h,e,a,λA T=>by rw[fV];show p A T];let r:(D.set (b+1) (.id (d' i (.J [↑Y,ik Y m]) o)))[b+1]?=I (.id (d' i (.J [↑Y,ik Y m]) o)):=iF (c5.mp f).1;show am.bE v.ss (am.bE (xG r (Vy o)) ?_);show am.N v j
 .show .ab (by unfold jf;rw[c];dsimp only;rw[aS s])
end
section
variable{b:Nat}{n cw:eB}{w a':W}
def oy(A:Str):Bool:= ↥(A="+")|| ↥(A="-")|| ↥(A="/")|| ↥(A="<")|| ↥(A="==")
def CA{A:Str}(z:oy A=L):vi A:=by
 unfold oy at z;simp only[My,Nn] at z;obtain(((z|z)|z)|z)|z:=z
 .show .inl z
 .show .inr (.inl z)
 .show .inr (.inr (.inl z))
 .show .inr (.inr (.inr (.inl z)))
 .show .inr (.inr (.inr (.inr z)))
def sr:bP->Bool
 |.aj _ i=> ↥(1<=i)&& ↥(i<=8)
 |.dJ i=> ↥(1<=i)&& ↥(i<=8)
 |.is i=> ↥(0<=i)&& ↥(i<=8)
 |.ew _ s _=> ↥(1<=s)&& ↥(s<=8)
 |.bin A=>oy A
 |.lift _ A=>oy A
 |.new n _=> ↥(n<30)
 |.const _ v=>match v with
  |.int _=>L
  |.none=>L
  |_=>ak
 |_=>L
def m8(Q:ah):Bool:=cA Q.aM.ctorIdx 0
def vf:bP->List ah->Bool
 |.ew _ s _,aa=> !↥(s=8)||aa.all m8
 |_,_=>L
def p2(z:bP):Bool:=cA z.ctorIdx 5||cA z.ctorIdx 15
def pY(H:List ah):Bool:=H.all λe=> !bG e.aM
mutual
noncomputable def dq:ah->Bool
 |.mk h aa=> ↥(0<=h.kind)&&sr h&&h.bF aa.length&&b' aa.length 1000&&vf h aa&&(p2 h||pY aa)&&i5 aa
noncomputable def i5:List ah->Bool
 |[]=>L
 |e::r=>dq e&&i5 r
end
def hB(z:bP):Bool:=cA z.ctorIdx 21
mutual
noncomputable def cy:ah->Nat
 |.mk h aa=>gI aa+3+(if hB h then 3*(aa.length-2) else 0)
noncomputable def gI:List ah->Nat
 |[]=>2
 |e::r=>max (cy e) (gI r)
end
theorem wX:2<=gI aa/\∀Q∈aa,cy Q<=gI aa:=by
 induction aa with
 |nil=>show#[by decide,λa z=>nomatch z]
 |cons Q q z=>have m:gI q<=gI (Q::q):=f1 ..;show#[ao z.1 m,bg.mpr #[f7 ..,λu T=>ao (z.2 u T) m]]
structure EP(C:List O)(e:ah):Prop where
 t':bG e.aM=ak->∀k,cy e<=k->i' C k e
 ai:∀k,cy e<=k->wx C k e
 f0:∀p,e=.mk .ref [p]->∀k,cy e<=k->wx C k p
structure f'(h:bP)(aa:List ah):Prop where
 aQ:0<=h.kind
 aM:sr h=L
 bF:h.bF aa.length=L
 le:aa.length<=1000
 yc:vf h aa=L
 f0:p2 h=L\/∀e∈aa,bG e.aM=ak
 aa:i5 aa=L
def h'(u:dq (.mk h aa)=L):f' h aa:=by
 let a1:=aw u;let b:=aw a1.1;let A:=aw b.1;let E:=aw A.1;let c:=aw E.1;let a:=aw c.1;show#[bS a.1,a.2,c.2,cc E.2,A.2,?_,a1.2];obtain g|g:=hI.mp b.2
 .show .inl g
 .show .inr λQ V=>?_;have:=j'.mp g Q V;rwa [p8] at this
def p7(s:i5 aa=L)(z:e∈aa):dq e=L:=xX (F:=i5) (λa a=>j) s e z
theorem ue{E:ah}{t:List V->P bb}:(cR [E]).G t=(eval E).G λB=>t [B]:=by rw[r',d6];rfl
def G0{E g:ah}{t:List V->P bb}:(cR [E,g]).G t=(eval E).G λa=>(eval g).G λB=>t [a,B]:=(w_ _).trans (aN _ (funext λa=>ue))
theorem Q7{t:List V->P bb}:(cR []).G t=t []:=by rfl
theorem aE.BW(d:aE n b an w D)(z:1<=i/\i<=8):∃Y:Nat,i=Y/\1<=Y/\Y<=8:=have u:0<=i:=fg () z.1;#[i.toNat,(v' u).symm,(Int.le_toNat u).mpr z.1,Ng.mpr z.2]
theorem am.gb{e:List Nat->bb->dk->Prop}{m r:M dk}{l i0:P bb}(Q:m=r)(t:l=i0)(z:am n b an w D e r i0):am n b an w D e m l:=by rw[Q,t];show z
theorem am.Pm{e:List Nat->bb->dk->Prop}{m:M dk}{l T:P bb}(z:am n b an w D e m T)(Q:l=T):am n b an w D e m l:=Q▸z
theorem VU{e:List Nat->bb->V->Prop}{h:List V->M V}{o:O}{r:Nat}(H:List ah)(U:∀Q∈H,i' C k Q)(i:List Nat)(A:W)(p:aG)(l:List V->P bb)(d:aE n b i A p)(N:p[r]?=I o)(ab:b+20<=r)(aa:r∉i)
  (s:∀g u Y y,g.length=H.length->aE n b (i++u) Y y->y[r]?=I o->am n b (i++u) Y y e (h g) (l g)):am n b i A p e (ni (λB h=>(ag C k cj [⇑(b+19),B]).G h) (bi H) h) ((cR H).G l):=by
 induction H generalizing i A p l h with
 |nil=>show dS i▸s [] [] A p j ((dS i).symm▸d) N
 |cons Q H w=>have a:g_ #[n.m,n.cI,[]] n:= #[bq _,λ_ z=>z,nofun];show am.Pm (am.G (U Q (.head _) _ b i A p (d.vu [])) (λu E B af ac _ D T q=>?_) a) (w_ _);let t:=qS N;obtain rfl:=D;show w (λQ z=>U Q (.tail _ z)) (i++u) af ac _ (T.le a) ((q.fr r t (.inr ab) aa nofun).trans N) (λz=>(d9.mp z).elim aa λz=>hp _ (fF t (q.qX r z))) λg x J ae c v f=>(ez i u x).symm▸s (_::g) (u++x) J ae (aN j4 c) (ez i u x▸v) f
theorem TQ{e:List Nat->bb->dk->Prop}{m:M dk}:∀{O:List V}{l:List Int->P bb},(∀T:List Int,O=T.map .int->am n b an w D e m (l T))->am n b an w D e m ((mf O).G l):=by
 intro O
 induction O with
 |nil=>intro l z;show z [] j
 |cons B O a=>
  intro l z;let Q:(mf (B::O)).G l=(c1 B).G λi=>(mf O).G λT=>l (i::T):=by
   rw[show mf (B::O)=(c1 B).G λi=>(mf O).G λT=>P.N (i::T) from j,d6]
   congr 1;funext i
   rw[d6];rfl
  rw[Q];show hi λi x=>a λT c=>z (i::T) (by rw[x,c];rfl)
def FH(d:aE n b an w D){q i:Nat}{T:List Int}(x:D[q]?=I (.list [.str "a"]))(J:D[i]?=I (.list (T.map .int)))(c:T.length<=1000):am n b an w D gG (wD C (k+1) (b+19) q ⇑i) ((gg (.a T)).G λY=>P.N ↑Y):=by
 show(Kp (C:=C) (k:=k) d (t:=.a T) (by split (V.str "a"::T.map V.int).length<=2000;rw[oW,fU];omega) ?_).pG;unfold wD;let e:bQ C .Add ⇑q ⇑i D=.ok ⇑D.length (D++[.list (cr.a T).cV]):=by
  let g:aU ([V.str "a"].length+(T.map V.int).length)=L:=g0 (by rw[fU];simp;omega);let f:dx C D ⇑q=I (.list [.str "a"]):=x;let o:dx C D ⇑i=I (.list (T.map .int)):=J;split (match dx C D ⇑q,dx C D ⇑i with
   |some (.list E),I (.list b)=>match aU (E.length+b.length) with
    |true=>(M.new (.list (E++b))).G λn=>M.N ⇑n
    |false=>M.ab
   |_,_=>M.ab:M V) D=_
  rw[f,o];show congrFun (g1 g) D
 rw[a8 e]
def K1{e:List Nat->bb->V->Prop}(d:aE n b an w D){l b7:P bb}{t:cr->P bb}(k:l=if i=0 then b7 else(dz i).G t)(u:i=0->am n b an w D e (K (.bool ak)) b7)(f:∀r,i≠0->am n b an w D e (K (.bool (mg r))) (t r)):am n b an w D e (yD C (b+19) ↑i K) l:=by
 rw[k];unfold yD;let U:bh C .NotEq ↑i ↑0=M.N (!(i==0)):=j;rw[U,a_];by_cases z:i=0
 .rw[aL z,z];show u z
 .rw[aS z,beq_eq_false_iff_ne.mpr z];show am.dz λr g A=>?_;obtain⟨q,x,h,J,c⟩:=d.oK (C:=C) g A;show am.bE d.mc (am.bE J (am.bE (d.Dt (p:=i) h) ?_));let a:bh C .Eq (.str (s_ r)) (.str "c")=M.N (mg r):=by cases r<;>(funext D;rfl')
  rw[a,a_];show f r z
theorem Li{e:List Nat->bb->V->Prop}(d:aE n b an w D)(J:1<=i/\i<=8){a:M V}{l:P bb}(z:∀Y y,aE n b an Y y->am n b an Y y e a l):am n b an w D e ((dD C (b+19) "lids").G λT=>(aJ C T ↑i).G λc=>(dd C c ↑0 ↑x).G λk=>a) ((jp i x).G λk=>l):=by
 obtain⟨g,rfl,f,o⟩:=d.BW J;show am.bE d.uy (am.bE (d.uU #[f,o]) ?_);let h:=λB=>C_ (C:=C) (v:=B) (d.qP #[f,o]);obtain rfl|rfl|rfl|rfl|rfl|rfl|rfl|rfl:=uV #[f,o]
 .obtain⟨r,q⟩:=d.sD (i:=1) (v:= ↑x) () {w with b4:=x} (λk k=>j) j j j;show am.step (a8 (h _)) (b1 (m:=jp 1 x) j) q (z _ _ r)
 .obtain⟨r,q⟩:=d.sD (i:=2) (v:= ↑x) () {w with cp:=x} (λk k=>j) j j j;show am.step (a8 (h _)) (b1 (m:=jp 2 x) j) q (z _ _ r)
 .show .ab j
 .obtain⟨r,q⟩:=d.sD (i:=4) (v:= ↑x) () {w with dV:=x} (λk k=>j) j j j;show am.step (a8 (h _)) (b1 (m:=jp 4 x) j) q (z _ _ r)
 .show .ab j
 .show .ab j
 .show .ab j
 .show .ab j
theorem QP{D:Str}(z:cA D.cps.size 0=L):D="":=by
 obtain⟨g⟩:=D;let f:g.size=0:=rA z;let o:g=(gn []):=Array.eq_empty_of_size_eq_zero f
 subst o;rfl
def RE{u e:Nat}(z:aU (u+e)=L):aU e=L:=by let f:u+e<=4000000:=j2.mp z;show g0 ()
theorem CB{e:List Nat->bb->V->Prop}{c r:Str}{l:Str->P bb}(x:v=.str c\/v=.none/\c="")(z:am n b an w D e (K (.str (r++c))) (l (r++c))):am n b an w D e (yh C v λa=>(bQ C .Add (.str r) a).G K) ((f5 r c).G l):=by
 unfold f5;rcases f:aU (r.cps.size+c.cps.size) with _|_
 .show .ab j
 let d:bQ C .Add (.str r) (.str c)=M.N (.str (r++c)):=by split (match aU (r.cps.size+c.cps.size) with|true=>M.N (.str (r++c))|false=>M.ab:M V)=_;rw[f]
 unfold yh;obtain rfl|⟨rfl,rfl⟩:=x
 .let A:dp C (.str c)=M.N (!cA c.cps.size 0):=by
   split (match aU c.cps.size with|true=>M.N (!cA c.cps.size 0)|false=>M.ab)=_;rw[RE f]
  rw[A,a_];rcases g:cA c.cps.size 0 with _|_
  .split am n b an w D e ((bQ C .Add (.str r) (.str c)).G K) _;rw[d];show z
  obtain rfl:=QP g;split am n b an w D e ((bQ C .Add (.str r) (.str "")).G K) _;rw[d];show z
 .split am n b an w D e ((bQ C .Add (.str r) (.str "")).G K) _;rw[d];show z
def T3{e:List Nat->bb->V->Prop}{r:M V}{g T:P aq}{a:aq->P bb}(f:x=y->am n b an w D e r (g.G a))(o:x≠y->am n b an w D e B (T.G a)):am n b an w D e (aV C ↑x ↑y r B) ((if x=y then g else T).G a):=by
 rw[jH];by_cases z:x=y
 .rw[aL z,aL z];show f z
 .rw[aS z,aS z];show o z
def Q1{r:Str}{a:Str->P bb}:(eE (e::aa) r).G a=(eval e).G λB=>(fQ e.kind B).G λD=>(f5 r D).G λr=>(eE aa r).G a:=(d6 ..).trans (aN _ (funext λB=>(d6 ..).trans (aN _ (funext λD=>d6 ..))))
theorem ab9(H:List ah)(o:∀Q∈H,i' C k Q/\Q.aM.bF Q.dK.length=L)(r:Str)(Y:ap)(i:List Nat)(A:W)(p:aG)(d:aE n b i A p)(z:Y=Ja (b+19) E (.str r)/\H≠[]\/∃v a,Y=u0 (b+19) E (.str r) v a):am n b i A p gG (cf (a5 C k gQ [9] 39) (bi H) Y (az C k gQ [9] 40)) ((eE H r).G λr=>P.N (.str r)):=by
 induction H generalizing r Y i A p with
 |nil=>
  obtain⟨_,z⟩|⟨v,a,rfl⟩:=z
  .cases z j
  .show am.N d j
 |cons Q H w=>
  obtain⟨ag,l⟩:=o Q (.head _);obtain⟨m,dH⟩:=Q;obtain⟨q,f⟩:=n9 (h:=m) (aa:=dH) l;let s:ax (.mk m dH)=.J (↑m.code:: ↑m.kind::q):=aN V.J f;let af:cf (a5 C k gQ [9] 39) (bi (.mk m dH::H)) Y (az C k gQ [9] 40)=Dw C k (b+19) (.str r) ↑m.code ↑m.kind q λU B=>cf (a5 C k gQ [9] 39) (bi H) (u0 (b+19) E U (.J (↑m.code:: ↑m.kind::q)) B) (az C k gQ [9] 40):=by
   split a5 C k gQ [9] 39 (ax (.mk m dH)) Y _=_;rw[s];obtain⟨rfl,_⟩|⟨v,a,rfl⟩:=z
   .show adE ..
   .show adF ..
  show am.gb af Q1 ?_;let y:=ag n b i A p d;rw[s] at y;show gW y λu B av as _ T=>?_;let ae:=λ(U:Str)(v a:V)=>w (λQ z=>o Q (.tail _ z)) U _ _ _ _ T (.inr #[v,a,j]);show T3 (λO=>?_) λO=>?_
  .rw[d6];show hi λaq x=>?_;subst x;rw[d6];show am.dz λe t al=>?_;obtain⟨ar,ao,aj,ai,c⟩:=T.oK (C:=C) t al;show am.bE T.mc (am.bE ai ?_);cases e with
   |n ac=>
    show am.bE (jI 1 1 j () aj j) ?_;dsimp only;rcases g:c7 ac with _|_
    .show .ab j
    let x:rf ↑ac=M.N (.str (j6 (toString ac))):=by unfold rf;dsimp only;rw[g]
    rw[x,a_];show CB (.inl j) (ae _ _ _)
   |_=>show .ab j
  .cases B with
   |none=>show CB (.inr #[j,j]) (ae _ _ _)
   |str D=>
    dsimp only;rcases an:aU D.cps.size with _|_
    .show .ab j
    show CB (.inl j) (ae _ _ _)
   |_=>show .ab j
theorem aaH{e:List Nat->bb->V->Prop}{h:ap->M V}{l:P bb}(g:List ah)(o:∀Q∈g,i' C k Q)(Y:ap)(i:List Nat)(A:W)(p:aG)(d:aE n b i A p)(z:Y=uW (b+19) E 31\/∃a,Y=((rp ⇑(b+19) E ↑31 a):ap))
  (s:∀Y u m y,aE n b (i++u) m y->(Y=uW (b+19) E 31\/∃a,Y=((rp ⇑(b+19) E ↑31 a):ap))->am n b (i++u) m y e (h Y) l):am n b i A p e (cf (a5 C k cj [10,0,0] 37) (bi g) Y h) ((cR g).G λr=>l):=by
 induction g generalizing Y i A p with
 |nil=>show dS i▸s Y [] A p ((dS i).symm▸d) z
 |cons Q g w=>
  let f:cf (a5 C k cj [10,0,0] 37) (bi (Q::g)) Y h=(ag C k cj [⇑(b+19),ax Q]).G λr=>cf (a5 C k cj [10,0,0] 37) (bi g) (rp ⇑(b+19) E ↑31 (ax Q)) h:=by
   obtain rfl|⟨a,rfl⟩:=z
   .show adp ..
   .show adq ..
  show am.gb f (w_ _) ?_;show gW (o Q (.head _) n b i A p d) λu B H q r T=>w (λQ z=>o Q (.tail _ z)) _ _ _ _ T (.inr #[_,j]) λY x J N v c=>(ez i u x).symm▸s Y (u++x) J N (ez i u x▸v) c
end
section
variable{b:Nat}{n cw:eB}{w a':W}
def yF(z:(↥(1<=i)&& ↥(i<=8))=L):1<=i/\i<=8:=by show#[bS (aw z).1,bS (aw z).2]
theorem abC{E:ah}(U:i' C (k+1) E)(d:aE n b an w D):am n b an w D (ls b) (ag C (k+2) ib [⇑(b+19),ax (.mk .dB [E])]) ((eval E).G λB=>(match[B] with
   |[↑n]=>(gN n 1).G λh=>P.N (.J [↑n,↑1])
   |_=>P.ab)):=by
 let f:ax (.mk .dB [E])=.J [↑4,↑7,ax E,.J [↑16,↑1]]:=j;rw[f,L'];show gW (U n b an w D d) λu B H z h T=>?_;cases B with
 |int m=>rw[<-im (az _ _ _ _ _ _)];show am.G (Dj T) (λx g B e c h q v h=>?_) og;obtain⟨q,a,o,rfl⟩:=q;show am.N v (.di m 1 q a o)
 |_=>show .ab j
theorem abB{E g:ah}(U:i' C (k+1) E)(c:i' C (k+1) g)(d:aE n b an w D):am n b an w D (ls b) (ag C (k+2) ib [⇑(b+19),ax (.mk .c8 [E,g])]) ((eval E).G λa=>(eval g).G λB=>(match[a,B] with
   |[↑n,↑i]=>(gN n (1+i)).G λo=>P.N (.J [↑n,↑(1+i)])
   |_=>P.ab)):=by
 let f:ax (.mk .c8 [E,g])=.J [↑6,↑7,ax E,ax g]:=j;rw[f,L_];show gW (U n b an w D d) λu a H z o T=>?_;show gW (c n b _ H z T) λu B H z o T=>?_;cases a with
 |int m=>
  cases B with
  |int i=>rw[add_int,a_,<-im (az _ _ _ _ _ _)];show am.G (Dj T) (λx l B h e o q v o=>?_) og;obtain⟨q,bJ,bZ,rfl⟩:=q;show am.N v (.di m (1+i) q bJ bZ)
  |_=>show .ab j
 |_=>injections B<;>show .ab j
theorem KE(d:aE n b an w D){m:Int}{Q:V}:am n b an w D gG ((az C (k+1) ib [2] 47 (ml (b+19) Q ↑m ↑hT)).G λa=>(aJ C a ↑0).G λg=>(aJ C a ↑1).G λi=>(aJ C g i).G M.N) ((gN m hT).G λu=>P.N ↑u):=by show am.G (Dj d) (λl u B H z e q T p=>?_) og;obtain⟨q,f,o,rfl⟩:=q;obtain⟨rfl,h,r,c,O⟩:=abD e;rw[gf (vs:=[⇑q,↑hT]) 0 0 j () j,a_,gf (vs:=[⇑q,↑hT]) 1 1 j () j,a_];show am.bE (T.Dy f c o O) (am.N T j)
theorem am.congr{e:List Nat->bb->dk->Prop}{m:M dk}{l T:P bb}(z:am n b an w D e m T)(Q:l=T):am n b an w D e m l:=Q▸z
def uc(v:iZ h=L):eval (.mk h [])=iR h [] []:=lw _ v
def n_{E:ah}(v:iZ h=L):eval (.mk h [E])=(eval E).G λB=>iR h [E] [B]:=(lw _ v).trans ue
def AZ{E g:ah}(v:iZ h=L):eval (.mk h [E,g])=(eval E).G λa=>(eval g).G λB=>iR h [E,g] [a,B]:=(lw _ v).trans G0
def VO(g:Int):Bool:= ↥(g=9)||(↥(g=10)||(↥(g=11)||(↥(g=7)||(↥(g=25)||(↥(g=21)||(↥(g=20)||(↥(g=22)|| ↥(g=26))))))))
def ng{W:Nat}{m:M V}(z:VO c=L)(Q:ag C k gQ [⇑W,.J (↑c::r)]=m):ag C (k+1) cj [⇑W,.J (↑c::r)]=m:=by rw[acZ c r ?_,im,Q];show(hI.mp z).imp bS λz=>(hI.mp z).imp bS λz=>(hI.mp z).imp bS λz=>(hI.mp z).imp bS λz=>(hI.mp z).imp bS λz=>(hI.mp z).imp bS λz=>(hI.mp z).imp bS λz=>(hI.mp z).imp bS bS
structure kb(C:List O)(av:Nat)(h:bP)(aa:List ah):Prop where
 X:f' h aa
 t':∀e∈aa,∀b6,av+2<=b6->bG e.aM=ak->i' C b6 e
 ED:∀e∈aa,∀b6,av+2<=b6->tA C b6 e
 kI:∀e∈aa,e.aM.bF e.dK.length=L
theorem kb.x8(w:kb C av h aa)(A:p2 h=ak)(V:e∈aa):bG e.aM=ak:=by
 obtain h|h:=w.X.f0
 .rw[A] at h;cases h
 .show h e V
theorem kb.jC(w:kb C av h aa)(A:p2 h=ak)(V:e∈aa):i' C (av+4) e:=w.t' e V _ (e3 () av) (w.x8 A V)
theorem kb.kR(w:kb C av h aa)(A:p2 h=ak)(V:e∈aa):i' C (av+3) e:=w.t' e V _ (e3 () av) (w.x8 A V)
def o_(C:List O)(Y:Nat)(U:eB)(b:Nat)(i:List Nat)(A:W)(p:aG)(z:bP)(H:List ah):Prop:=kb C Y z H->am U b i A p gG (ag C (Y+5) cj [⇑(b+19),ax (.mk z H)]) (eval (.mk z H))
def w2(a:kb C av h aa)(A:cA aa.length 0=L)(y:o_ C av n b an w D h []):am n b an w D gG (ag C (av+5) cj [⇑(b+19),ax (.mk h aa)]) (eval (.mk h aa)):=kf (P:=o_ C av n b an w D h) aa A y a
def n8(a:kb C av h aa)(A:cA aa.length 1=L)(y:∀E,o_ C av n b an w D h [E]):am n b an w D gG (ag C (av+5) cj [⇑(b+19),ax (.mk h aa)]) (eval (.mk h aa)):=il (P:=o_ C av n b an w D h) aa A y a
def AV(a:kb C av h aa)(A:cA aa.length 2=L)(y:∀E g,o_ C av n b an w D h [E,g]):am n b an w D gG (ag C (av+5) cj [⇑(b+19),ax (.mk h aa)]) (eval (.mk h aa)):=kP (P:=o_ C av n b an w D h) aa A y a
def kR(a:kb C av h aa)(A:cA aa.length 3=L)(y:∀E g x,o_ C av n b an w D h [E,g,x]):am n b an w D gG (ag C (av+5) cj [⇑(b+19),ax (.mk h aa)]) (eval (.mk h aa)):=r1 (P:=o_ C av n b an w D h) aa A y a
def W_{g:Prop}[Decidable g]{u e:V}:P.N (if g then u else e)=if g then P.N u else P.N e:=by
 by_cases z:g
 .rw[aL z,aL z]
 .rw[aS z,aS z]
def U6(z:0<=i/\i<=8)(u:i≠0):1<=i/\i<=8:= #[Int.lt_iff_le_and_ne.mpr #[z.1,u.symm],z.2]
theorem TZ{s:bP}{T:List ah}(z:m8 (.mk s T)=L):∃p B,s=.const p B:=by
 cases s with
 |const p B=>show#[p,B,j]
 |_=>cases z
theorem QN(w:kb C av h aa)(aP:bG h=ak):i' C (av+5) (.mk h aa):=by
 intro U y ae A p d;cases h with
 |const n B=>show w2 w w.X.bF λw=>?_;show am.gb (acS ..) (uc j) ?_;show am.N d j
 |aj n i=>show w2 w w.X.bF λw=>?_;show am.gb (acY ..) (uc j) ?_;obtain⟨l,rfl,aq,aC⟩:=d.BW (yF w.X.aM);show am.bE d.uy (am.bE (d.uU #[aq,aC]) (am.bE (jI 0 0 j () (d.qP #[aq,aC]) j) ?_));show am.step (a':=A) (i0:=P.N (sE A l)) j (BX #[aq,aC]) de.refl (am.N d j)
 |this n=>show w2 w w.X.bF λw=>?_;show am.gb (ac2 ..) (uc j) ?_;show am.eo d.Bk ?_;show oj (ms:=DE) (λ_=>am.N d j) λ_=>am.bE d.By (am.step (a':=A) (i0:=P.N (cU A.this.1 A.this.2)) j j de.refl (am.N d j))
 |slot n i=>show w2 w w.X.bF λw=>?_;show am.gb ((ac1 ..).trans (im _)) (uc j) ?_;show abn d w.X.aQ
 |cb n=>show n8 w w.X.bF λE w=>?_;show am.gb (acO ..) (n_ j) ?_;show gW (w.jC j (.head _) U y ae A p d) λac B H z _ T=>?_;show wH (Mh T) λaR i aW aT _ af=>am.bE (Aq af) (am.N af j)
 |call n id=>
  let aA:ax (.mk (.call n id) aa)=.J [↑8,↑n,.none,.J [↑16,↑id,.J []],.J (bi aa),↑0]:=j;rw[aA,acQ,lw _ j];let aB:(cR aa).G (iR (.call n id) aa)=((cR aa).G λay=>run "call" id (aa.map λQ=>bG Q.aM) ay).G λm=>P.N (ik n m):=by rw[d6];rfl
  rw[aB];show wH (K9 (C:=C) (k:=av+2) (λQ ag=>w.ED Q ag _ ()) w.X.le d) λaR i aW aT _ af=>am.bE (Aq af) (am.N af j)
 |bin bk=>show AV w w.X.bF λE g w=>?_;show am.gb (acP ..) (AZ j) ?_;show gW (w.jC j (.head _) U y ae A p d) λac aH H z _ T=>?_;show gW (w.jC j (.tail _ (.head _)) U y _ H z T) λac B H z _ T=>?_;show hi λu ar=>hi λe aF=>?_;subst ar;subst aF;show(KI T (CA w.X.aM)).ps.pG
 |lift n bk=>show AV w w.X.bF λE g w=>?_;show am.gb (acW ..) (AZ j) ?_;show gW (w.jC j (.head _) U y ae A p d) λac aH H z _ T=>?_;show gW (w.jC j (.tail _ (.head _)) U y _ H z T) λac B H z _ T=>?_;show sS λu e ar=>sS λbt bu aF=>?_;subst ar;subst aF;show(Vb T (CA w.X.aM)).ps
 |ix=>show n8 w w.X.bF λE w=>?_;show am.gb (acX ..) (n_ j) ?_;show gW (w.jC j (.head _) U y ae A p d) λac B H z _ T=>?_;show sS λu e x=>?_;subst x;show am.bE (v:= ↑u) j (am.congr (DJ (CF:=P.N (cU u e)) (ms:=P.N (cU 1 (-e))) (λ_=>am.N T j) λ_=>am.bE (v:= ↑e) j (am.N T j)) (W_ ..))
 |len=>show n8 w w.X.bF λE w=>?_;show am.gb (ng j (ac_ ..)) (n_ j) ?_;show gW (w.kR j (.head _) U y ae A p d) λac B H z _ T=>?_;show hi λi x=>?_;subst x;show oj (λ_=>kx T) λ_=>am.dz λan bb be=>?_;obtain⟨q,aP,bc,aE,al⟩:=T.oK (C:=C) bb be;show am.bE T.mc (am.bE aE (am.bE (xL bc (ao al ())) (am.bE (v:= ↑((an.cV.length:Int)-1)) j (am.N T j))))
 |dB=>show n8 w w.X.bF λE w=>?_;show am.gb (acV ..) (n_ j) ?_;unfold yP;rw[L',hv];show gW (w.kR j (.head _) U y ae A p d) λac B H z _ T=>?_;show hi λi x=>?_;subst x;show KE T
 |c8=>show AV w w.X.bF λE g w=>?_;show am.gb (acU ..) (AZ j) ?_;unfold yP;rw[L_,hv];show gW (w.kR j (.head _) U y ae A p d) λac aH H z _ T=>?_;rw[hv];show gW (w.kR j (.tail _ (.head _)) U y _ H z T) λac B H z _ T=>?_;show hi λm bf=>hi λi x=>?_;subst bf;subst x;rw[add_int,a_];show KE T
 |bO n=>show kR w w.X.bF λE g bp w=>?_;show am.gb (acR ..) j ?_;show gW (w.jC j (.head _) U y ae A p d) λac B H z _ T=>?_;show hi λi x=>?_;subst x;show oj (λ_=>(w.jC j (.tail _ (.head _)) U y _ H z T).ps) λ_=>(w.jC j (.tail _ (.tail _ (.head _))) U y _ H z T).ps
 |seq n=>
  obtain _|⟨B,b⟩:=aa
  .cases w.X.bF
  show am.gb (ac0 ..) j ?_;show aaH b (λQ ag=>w.jC j (.tail _ ag)) _ _ _ _ d (.inl j) λbs ac H z T al=>?_;let aJ:=w.jC j (.head _) U y _ H z T;obtain rfl|⟨aH,rfl⟩:=al
  .show am.eo (congrFun (adr ..) z) aJ.ps
  .show am.eo (congrFun (ads ..) z) aJ.ps
 |ew n aI m=>
  show n8 w w.X.bF λE w=>?_;obtain⟨s,ai⟩:=E;obtain⟨bl,aZ⟩:=n9 (h:=s) (aa:=ai) (w.kI _ (.head _));let a0:ax (.mk s ai)=.J (↑s.code:: ↑s.kind::bl):=aN V.J aZ;let aA:∀u,ax (.mk (.ew n aI m) [u])=.J [↑19,↑n,ax u,↑aI,↑m]:=λu=>j;let br:=yF w.X.aM;rw[aA,acT,jH,lw _ j,ue];by_cases aD:aI=8
  .rw[aL aD];let a9:=w.X.yc;subst aD;let aK:([ah.mk s ai].all m8)=L:=a9;rw[List.all_cons,List.all_nil,Mq] at aK;obtain⟨bg,aV,rfl⟩:=TZ aK;let al:=w.kI _ (.head _);obtain rfl:ai=[]:=At al;have:eval (.mk (.const bg aV) [])=P.N aV:=by rw[lw _ j,Q7];rfl
   rw[this];show am.N d j
  .rw[aS aD];show gW (w.jC j (.head _) U y ae A p d) λac B H z _ T=>?_;rw[im,a0];show acz T ()
 |dJ i=>show n8 w w.X.bF λE w=>?_;show am.gb (ng j (ac6 ..)) (n_ j) ?_;show gW (w.kR j (.head _) U y ae A p d) λac B H z _ T=>?_;show hi λu x=>?_;subst x;show Li T (yF w.X.aM) λY bm af=>am.N af j
 |ref=>cases aP
 |new n id=>
  show am.gb (ng j (ac' ..)) (lw _ j) ?_;let aB:(cR aa).G (iR (.new n id) aa)=((cR aa).G λay=>run "new" id (aa.map λQ=>bG Q.aM) ay).G λm=>if n=16 then(gg (.c m)).G λav=>P.N ↑av else P.N (cU m id):=by rw[d6];rfl
  rw[aB];show wH (K9 (C:=C) (k:=av+1) (λQ ag=>w.ED Q ag _ ()) w.X.le d) λaR i aW aT _ af=>?_;show am.eo af.Bk ?_;show oj (λ_=>(sX af (t:=.c i) (cc j)).pG) λ_=>am.N af j
 |k4=>
  show n8 w w.X.bF λE w=>?_;show am.gb (ng j (ada ..)) (n_ j) ?_;show gW (w.kR j (.head _) U y ae A p d) λac B H z _ T=>?_;show hi λi x=>?_;subst x;let a2:bh C .Lt ↑i ↑0=M.N ↥(i<0):=j;let a4:bh C .Gt ↑i ↑9=M.N ↥(9<i):=j;rw[a2,a_];by_cases ap:i<0
  .rw[cW ap,aL (.inl ap)];show kx T
  .rw[f8 ap];dsimp only;rw[a4,a_];by_cases az:9<i
   .rw[cW az,aL (.inr az)];show kx T
   .rw[f8 az,aS (λh=>h.elim ap az)];dsimp only;unfold x2;show sN T (sN (T.app _) ?_);let aX:=(T.app [O.list [.str "a"]]).app [O.list [↑0]];let bn:(z++[O.list [V.str "a"]]++[O.list [V.int 0]])[z.length]?=I (.list [.str "a"]):=by rw[eP (by simp),dU]
    let bo:=dU (z++[O.list [V.str "a"]]) (O.list [V.int 0]);let a7:∀{p:aG}{u:Nat},p[u]?=I (.list [↑0])->bQ C .Mult ⇑u ↑i p=.ok ⇑p.length (p++[.list ((lV i.toNat (0:Int)).map .int)]):=λ{p u} ar=>by
     let aq:dx C p ⇑u=I (.list [↑0]):=ar;let a3:(↥(0<=i)&&aU i.toNat)=L:=by rw[cW (show 0<=i by omega),g0 (show i.toNat<=4000000 by omega)];rfl
     split (match dx C p ⇑u with
      |some (.list [B])=>match↥(0<=i)&&aU i.toNat with
       |true=>(M.new (.list (lV i.toNat B))).G λU=>M.N ⇑U
       |false=>M.ab
      |_=>M.ab:M V) p=_
     rw[aq];simp only[a3];rw[List.map_replicate];show j
    show am.step (a':=H) (i0:=(gg (.a (lV i.toNat 0))).G λav=>P.N ↑av) (a8 (a7 bo)) j (de.app _) ?_;show FH (aX.app _) ?_ (dU _ _) (by rw[afk];omega);rw[eP (by simp)];show bn
 |iS=>
  let bq:=w.X.le;show am.gb (ng j (ac4 ..)) (lw _ j) ?_;show sN d ?_;let T:=d.app [O.list [.str "a"]];let bd:nu (.J (bi aa))=M.N (.vs (bi aa)):=by funext D;split (match aU (bi aa).length with|true=>M.N (gs.vs (bi aa))|false=>M.ab:M gs) D=_;rw[g0 (by rw[iV];omega)]
  rw[bd,a_];split am U y ae A _ gG (ni _ (bi aa) _) _;let a1:=d.r4;let bj:p.length∉ae:=λh=>by obtain⟨_,_,aY⟩:=d.rc;have:=(aY.jn _ h).2;omega
  show VU (o:=.list [.str "a"]) (r:=p.length) aa (λQ ag=>w.kR j ag) ae A _ _ T (dU _ _) a1 bj λay ac H z al af aO=>?_;split am U y _ H z gG _ ((mf ay).G λai=>(gg (.a ai)).G λav=>P.N ↑av);show TQ λai a5=>?_;subst a5;let a6:ai.length<=1000:=by rw[fU] at al;omega
  rw[g0 (by rw[fU];omega)];show sN af (FH (af.app _) ?_ (dU _ _) a6);rw[eP (c5.mp aO).1];show aO
 |is i=>
  show n8 w w.X.bF λE w=>?_;let aE:0<=i/\i<=8:= #[bS (aw w.X.aM).1,bS (aw w.X.aM).2];show am.gb (ng j (ac9 ..)) (n_ j) ?_;show gW (w.kR j (.head _) U y ae A p d) λac B H z _ T=>?_;show hi λu x=>?_;subst x;show K1 T j (λ_=>?_) λan _=>?_
  .show am.bE (v:=ak) j (am.bE (v:=ak) j (am.N T j))
  .show am.bE (v:=mg an) j ?_;obtain _|_:=mg an
   .show am.bE (v:=ak) j (am.N T j)
   show DJ (λ_=>am.bE (v:=L) j (am.N T j)) λap=>Li T (U6 aE ap) λY bm af=>am.bE (v:=L) j (am.N af j)
 |as=>
  show n8 w w.X.bF λE w=>?_;show am.gb (ng j (ac5 ..)) (n_ j) ?_;show gW (w.kR j (.head _) U y ae A p d) λac B H z _ T=>?_;show hi λu x=>?_;subst x;show K1 T j (λ_=>?_) λan _=>?_
  .show am.bE (v:=ak) j (am.N T j)
  .show am.bE (v:=mg an) j ?_;obtain _|_:=mg an
   .show am.N T j
   show am.N T j
 |hg id=>
  obtain _|⟨E,q⟩:=aa
  .show am.gb (ng j (ac8 ..)) (uc j) ?_;show(sX d (t:=.f (-1) id) (cc j)).pG
  obtain _|_:=q
  case cons=>cases w.X.bF
  obtain⟨s,ai⟩:=E;show am.gb (ng j (ac7 ..)) (n_ j) ?_;show gW (w.kR j (.head _) U y ae A p d) λac B H z _ T=>?_;split am U y _ H z gG _ ((c1 B).G λu=>if u=0 then eY 1 else(gg (.f u id)).G λav=>P.N ↑av);show hi λu x=>?_;subst x;show oj (λ_=>kx T) λ_=>(sX T (t:=.f u id) (cc j)).pG
 |bV=>
  show am.gb (ng j (adb ..)) j ?_;let ba:aa≠[]:=by intro Q;subst Q;cases w.X.bF
  show ab9 aa (λQ ag=> #[w.kR j ag,w.kI Q ag]) "" _ _ _ _ d (.inl #[j,ba])
theorem abd(w:kb C av h aa):wx C (av+5) (.mk h aa):=by
 intro U y a A p d;cases h with
 |aj n i=>
  obtain _|_:=aa
  .show am.gb (adx ..) (i0:=P.N (.J [↑0,↑i])) j ?_;obtain⟨l,rfl,f,o⟩:=d.BW (yF w.X.aM);show am.bE d.uy (am.bE (d.uU #[f,o]) (am.N d (.lid l #[f,o])))
  .cases w.X.bF
 |dB=>
  obtain _|⟨E,_|_⟩:=aa
  .cases w.X.bF
  .rw[show hX [.mk .dB [E]]=(cR [E]).G _ from j,ue];show abC (w.jC j (.head _)) d
  .cases w.X.bF
 |c8=>
  obtain _|⟨E,_|⟨g,_|_⟩⟩:=aa
  .cases w.X.bF
  .cases w.X.bF
  .rw[show hX [.mk .c8 [E,g]]=(cR [E,g]).G _ from j,G0];show abB (w.jC j (.head _)) (w.jC j (.tail _ (.head _))) d
  .cases w.X.bF
 |_=>show .ab j
theorem Gf(O:cy (.mk h aa)<=k):∃Y,k=Y+5/\∀Q∈aa,cy Q<=Y+2:=by let M:gI aa+3<=k:=ao (bv ..) O;obtain⟨Y,rfl⟩:=sb (ao (c_ wX.1 3) M);show#[Y,j,λQ V=>vS (b:=3) (ao (c_ (wX.2 Q V) 3) M)]
mutual
theorem GW:∀e,dq e=L->EP C e
 |.mk h aa,x=>by
  let X:=h' x;let w:=G2 aa X.aa;let kI:∀e∈aa,e.aM.bF e.dK.length=L:=λe V=>by have:=p7 X.aa V;obtain⟨g,l⟩:=e;show(h' this).bF
  let KB:∀k,cy (.mk h aa)<=k->∃av,k=av+5/\kb C av h aa:=λk O=>by
   obtain⟨av,rfl,s⟩:∃av,k=av+5/\∀e∈aa,cy e<=av+2:=Gf O;let b:∀e∈aa,∀b6,av+2<=b6->bG e.aM=ak->i' C b6 e:=λe V b6 f d=>(w e V).t' d b6 (ao (s e V) f);show#[av,j,X,b,λe V b6 f=>?_,kI];rcases a:bG e.aM with _|_
   .show .inr #[a,b e V b6 f a,kI e V]
   .obtain⟨g,l⟩:=e;obtain rfl:=yx a;obtain⟨i,b4,rfl⟩:=t5 (kI _ V);show .inl #[_,j,(w _ V).f0 _ j b6 (ao (s _ V) f)]
  show#[λd k O=>?_,λk O=>?_,λp t k O=>?_]
  .obtain⟨av,rfl,B⟩:=KB k O;show QN B d
  .obtain⟨av,rfl,B⟩:=KB k O;show abd B
  .injection t with c q
   subst c;subst q;obtain⟨av,rfl,s⟩:=Gf O;show(w p (.head _)).ai _ (ao (s p (.head _)) (e3 () av))
theorem G2:∀aa,i5 aa=L->∀e∈aa,EP C e
 |[],_=>λm h=>nomatch h
 |y::r,x=>bg.mpr #[GW y (aw x).1,G2 r (aw x).2]
end
def Q6(u:dq e=L)(x:bG e.aM=ak)(O:cy e<=k):i' C k e:=(GW e u).t' x k O
end
variable{lB:Nat}
section
variable{b:Nat}{n cw:eB}{w a':W}
def e9(Q:ah):Bool:=dq Q&& !bG Q.aM
mutual
noncomputable def pZ:bc->Bool
 |.expr e=>e9 e
 |.cD _ e=>e9 e
 |.cb _ _ t=>e9 t
 |.bO t y n=>e9 t&&hF y&&hF n
noncomputable def hF:List bc->Bool
 |[]=>L
 |s::r=>pZ s&&hF r
end
mutual
noncomputable def kt:bc->Nat
 |.expr e=>cy e+1
 |.cD _ e=>cy e+1
 |.cb _ _ t=>cy t+2
 |.bO t y n=>max (cy t) (max (dY y) (dY n)+4)+2
noncomputable def dY:List bc->Nat
 |[]=>0
 |s::r=>max (kt s) (dY r)
end
theorem aaz:∀D∈p,kt D<=dY p:=by
 induction p with
 |nil=>show λa z=>nomatch z
 |cons D q w=>show bg.mpr #[f7 ..,λu T=>ao (w u T) (f1 ..)]
def t_(u:e9 e=L)(O:cy e<=k):i' C k e:=by unfold e9 at u;rw[dj,p8] at u;show Q6 u.1 u.2 O
theorem pv(Q:ah):5<=cy Q:=by
 cases Q with
 |mk z H=>show ao (c_ (wX (aa:=H)).1 3) (bv ..)
theorem GI(u:e9 e=L):0<=e.kind/\∃g q,ax e=.J (g:: ↑e.kind::q):=by
 unfold e9 at u;rw[dj] at u;cases e with
 |mk z H=>have a:=h' u.1;obtain⟨q,f⟩:=n9 a.bF;show#[a.aQ,_,q,aN V.J f]
theorem Kl{v:aq}:∀b:List (Int×aq),(d' i v b).length<=b.length+1:=by
 intro b
 induction b with
 |nil=>show bq 1
 |cons r b w=>
  obtain⟨Y,a⟩:=r;rw[pV];obtain _|_:= ↥(i=Y)
  .show hJ (w)
  show j3 _
inductive tJ(aQ:Int)(u:V):V->Prop
 |same (h:0<=aQ):tJ aQ u (.J [↑aQ,u])
 |nd (m:Int) (h:u=ik aQ m):tJ aQ u (.J [↑(-1),↑m])
theorem gF.one{n:Int}(x:tJ n u v)(h:gF es cz):gF ((i,v)::es) ((i,(n,u))::cz):=by
 cases x with
 |same a=>show .same a h
 |nd m Q=>subst Q;show .nd h
theorem gF.put(z:gF es cz){n:Int}(x:tJ n u v):gF (d' i v es) (d' i (n,u) cz):=by
 induction z with
 |nil=>show gF.one x .nil
 | @same Y p v es cz f o w=>
  rw[pV,pV];obtain _|_:= ↥(i=Y)
  .show .same f w
  show gF.one x o
 | @nd Y p m es cz o w=>
  rw[pV,pV];obtain _|_:= ↥(i=Y)
  .show .nd w
  show gF.one x o
theorem Lf(k:aE n b an w D){c:Int}(o:m+1<=n.m)(x:tJ c u v):am #[m,n.cI,n.X] b an w D kO ((dD C (b+19) "held").G λz=>(dd C z ↑i v).G λs=>M.N .none) (my i c u):=by
 show am.bE k.ss ?_;obtain⟨⟨B,l,H,g,y⟩,h,e,a,p⟩:=k;let du:∀d,E1 d (d' i (c,u) w.ci)->dd C ⇑(b+1) ↑i v D=.ok bL (D.set (b+1) d)->am #[m,n.cI,n.X] b an w D kO ((dd C ⇑(b+1) ↑i v).G λs=>M.N .none) (my i c u):=λd l Q=>by show#[.none,D.set (b+1) d,[],(a8 Q).trans j,j,?_,de.oH (iw:=1) () _];rw[dS];show#[#[B,d,H.upd (iw:=1) () j j,g.oH (iw:=1) (),l],h,ao (c_ (Kl (i:=i) (v:=(c,u)) w.ci) m) (ao (by rw[nC];show e3 o _) e),a,λq T=>by rw[fV];show p q T]
 obtain⟨rfl,y⟩|⟨r,rfl,y⟩:=y
 .let f:D[b+1]?=I (.aX []):=H.jF 1 ();show du _ (.inr #[_,j,by rw[y];show gF.put .nil x]) ?_;unfold dd M.get;dsimp only;rw[f];rfl
 .show du _ (.inr #[_,j,y.put x]) (C9 (C:=C) (i:=i) (v:=v) (H.jF 1 ()) (by rw[y.len];show ao (bv ..) (ao e ())))
def jb(C:List O)(k m:Nat)(B:V)(v:P Unit):Prop:=∀(n:eB) b an w D (lB:Nat),aE n b an w D->lB+m<=n.m->am #[lB,n.cI,n.X] b an w D kO (ag C k fB [⇑(b+19),B]) v
theorem am.none{m:M V}{v:P Unit}(z:am n b an w D kO m v):am n b an w D kO (m.G λc=>M.N .none) v:=lY.map z (λE H #[B,a,u,Q,q,P,g]=> #[_,a,u,(a8 Q).trans j,j,P,g]) λH #[a,u,Q,P,g]=> #[a,u,Jt Q,P,g]
theorem jb.cut{a:P Unit}(z:jb C k m v a)(f:jb C (k+1) m v a)(g:Bool):jb C (k+1) m (mk g v) a:=by
 obtain _|_:=g
 .show f
 intro U y i A p t d b;split am _ y i A p kO (ag C (k+1) fB [⇑(y+19),.J [↑93,v]]) a;rw[ad_];show(z U y i A p t d b).none
def qO(z:lB<=n.m):g_ n #[lB,n.cI,n.X]:= #[z,λa z=>z,λa z=>z]
def Nr(C:List O)(k b:Nat)(U:V)(v:List bc):Prop:=∀(n:eB)(an:List Nat)(w:W)(D:aG)(lB:Nat)(Y:ap),aE n b an w D->lB+cG v<=n.m->(Y=B2 (b+19) U\/∃u,Y=uY (b+19) U u)->am #[lB,n.cI,n.X] b an w D kO (cf (a5 C k fB [1,1,0,0,0] 45) (ca v) Y (az C k fB [1,1,0,0,0] 46)) (execs v)
theorem OQ(v:List bc)(o:∀D∈v,jb C k (ov D) (fJ D) (exec D)):Nr C k b E v:=by
 induction v with
 |nil=>
  intro U c A p t Y d i z;let T:=d.le (qO (n:=U) (lB:=t) i);obtain rfl|⟨a,rfl⟩:=z
  .show am.N T j
  .show am.N T j
 |cons D q w=>
  intro U c A p t Y d i z;let f:cf (a5 C k fB [1,1,0,0,0] 45) (ca (D::q)) Y (az C k fB [1,1,0,0,0] 46)=(ag C k fB [⇑(b+19),fJ D]).G λh=>cf (a5 C k fB [1,1,0,0,0] 45) (ca q) (uY (b+19) E (fJ D)) (az C k fB [1,1,0,0,0] 46):=by
   obtain rfl|⟨a,rfl⟩:=z
   .show ad7 ..
   .show ad8 ..
  rw[f];show am.G (o D (.head _) U b c A p (t+cG q) d (by rw[fD,j1 (cG q)];show i)) (λu e B H g h h T h=>w (λD z=>o D (.tail _ z)) #[t+cG q,U.cI,U.X] _ _ _ t _ T (bq _) (.inr #[_,j])) (qO (n:= #[t+cG q,U.cI,U.X]) (bv ..))
def ZH(o:∀g,k<=g->∀D∈p,jb C g (ov D) (fJ D) (exec D)):jb C (k+2) (cG p) (gY p) (execs p):=by
 let y:∀g,k<=g->jb C (g+1) (cG p) (.J [↑3,.J (ca p),↑0]) (execs p):=λg f U c b A a t d i=>by rw[ad6];show OQ p (o g f) U b A a t _ d i (.inl j)
 show jb.cut (y k (bq _)) (y (k+1) (j3 _)) _
def GP(v:List bc):∃T,gY v=.J T:=by obtain⟨g,q,z,_⟩:=xZ (fM v) (d:=3) j [.J (ca v),↑0];show#[_,z]
def w1{l:V->P Unit}(U:i' C k e)(d:aE n b an w D)(i:lB<=n.m)(s:∀u B H z,aE n b (an++u) H z->am #[lB,n.cI,n.X] b (an++u) H z kO (K B) (l B)):am #[lB,n.cI,n.X] b an w D kO ((ag C k cj [⇑(b+19),ax e]).G K) ((eval e).G l):=am.G (U n b an w D d) (λu E B H z a q T a=>by rw[q];show s u E H z T) (qO i)
def hR(C:List O)(s:bc):Prop:=∀k,kt s<=k->jb C k (ov s) (fJ s) (exec s)
def afc(u:e9 e=L):hR C (.expr e):=λp O=>by
 obtain _|p:=p
 .cases(tl _) O
 intro U y b A a t d i;split am _ y b A a kO (ag C (p+1) fB [⇑(y+19),.J [↑1,ax e]]) ((eval e).G λf=>P.N bL);rw[ad5];show w1 (t_ u (el O)) d (hH i) λc B H z T=>am.N (T.le (qO (hH i))) j
def afd(u:e9 e=L):hR C (.cD i e):=λp O=>by
 obtain _|p:=p
 .cases(tl _) O
 intro U y h A c t d a;obtain⟨b,g,q,f⟩:=GI u;split am _ y h A c kO (ag C (p+1) fB [⇑(y+19),.J [↑94,↑i,ax e]]) ((eval e).G λB=>my i e.kind B);rw[f,ad',<-f];show w1 (t_ u (el O)) d (hH a) λj B H z T=>Lf T a (.same b)
theorem Lu(z:m+2<=k)(O:5<=m):∃Y,k=Y+4/\m<=Y+2:=by obtain⟨Y,rfl⟩:∃Y,k=Y+4:= #[k-4,(ie (ao (ao () (c_ O 2)) z)).symm];show#[Y,j,el (el z)]
theorem afa{n:Int}{r:ah}(c:e9 r=L):hR C (.cb i n r):=λp O=>by
 obtain⟨p,rfl,O⟩:=Lu (m:=cy r) O (pv r);let y:∀g,p+2<=g->jb C (g+1) 1 (.J [↑95,↑i,ax r]) ((eval r).G λB=>(oP B).G λb=>my i n (ik n b)):=λg f U e k A h t d a=>by obtain⟨g,rfl⟩:∃Y,g=Y+2:= #[g-2,(ie (ao (fE ..) f)).symm];rw[aea];show w1 (t_ c (ao O f)) d (hH a) λu B H z T=>?_;show am.G (Mh T) (λu E B H z l q T l=>?_) (qO (hH a));rw[q];show Lf T a (.nd E j)
 show jb.cut (y (p+2) (bq _)) (y (p+3) (j3 _)) L
theorem afb{r:ah}{e k:List bc}(u:e9 r=L)(M:∀D∈e,hR C D)(n:∀D∈k,hR C D):hR C (.bO r e k):=λp O=>by
 let m:5<=max (cy r) (max (dY e) (dY k)+4):=ao (pv r) (f7 ..);obtain⟨p,rfl,O⟩:=Lu O m;let O:=g9.mp O;let h:max (dY e) (dY k)+2<=p:=el (el O.2);let y:∀g,p+2<=g->jb C (g+1) (cG e+cG k+1) (.J [↑4,ax r,gY e,gY k]) ((eval r).G λB=>(c1 B).G λj=>if j=1 then execs e else execs k):=λg f U b Q A N t d i=>by
  obtain⟨g,rfl⟩:∃Y,g=Y+2:= #[g-2,(ie (ao (fE ..) f)).symm];obtain⟨s,c⟩:=GP k;let a:max (dY e) (dY k)<=g:=ao (hH (hH h)) (el (el f));let up:∀v:List bc,(∀D∈v,hR C D)->dY v<=g->jb C (g+2) (cG v) (gY v) (execs v):=λv q c=>ZH λE o D h=>q D h E (ao (aaz D h) (ao c o));rw[c,ad9,<-c];show w1 (t_ u (ao O.1 f)) d (ao (bv ..) i) λw B H z T=>?_;show hi λj x=>?_;subst x;show oj (λl=>?_) λl=>?_
  .show(up e M (ao (f7 ..) a) U b _ H z t T (ao (e3 (ao (bv ..) (j3 _)) _) i)).none
  .show(up k n (ao (f1 ..) a) U b _ H z t T (ao (e3 (ao (fE ..) (j3 _)) _) i)).none
 show jb.cut (y (p+2) (bq _)) (y (p+3) (j3 _)) _
mutual
theorem G4:∀(s:bc),pZ s=L->hR C s
 |.expr e,x=>afc x
 |.cD i e,x=>afd x
 |.cb i aQ t,x=>afa x
 |.bO t y n0,x=>afb (aw (aw x).1).1 (A5 y (aw (aw x).1).2) (A5 n0 (aw x).2)
theorem A5:∀(p:List bc),hF p=L->∀s∈p,hR C s
 |[],_=>λa h=>nomatch h
 |y::r,x=>bg.mpr #[G4 y (aw x).1,A5 r (aw x).2]
end
def Rd(D:bc)(u:pZ D=L)(p:Nat)(O:kt D<=p):jb C p (ov D) (fJ D) (exec D):=G4 D u p O
end
variable{b8:ap->M V}
section
variable{b:Nat}{n cw:eB}{w a':W}
def hb:W:= #[[],[],0,0,(70,71),1,0,(3,4),1,3,(1,8),5,.str "x",[.c 10,.c 20,.a [30,31],.a [40,41,42],.n 7,.s 60 61]]
def oQ(b:Nat):List O:=[.list [],.aX [],.list [↑0],.list [↑1],.list [↑0],.list [.J [↑3,↑4]],.list [↑1],.list [↑3],.list [.J [↑1,↑8]],.list [↑5],.list [.str "x"],
 .list [⇑(b+2),⇑(b+3),⇑(b+4),⇑(b+5),⇑(b+6),⇑(b+7),⇑(b+8),⇑(b+9),⇑(b+10)],.list [.str "c",↑10],.list [.str "c",↑20],.list [.str "a",↑30,↑31],.list [.str "a",↑40,↑41,↑42],.list [.str "n",↑7],.list [.str "s",.J [↑60,↑61]],
 .list [.none,⇑(b+12),⇑(b+13),⇑(b+14),⇑(b+15),⇑(b+16),⇑(b+17)],
 .aX [("g",⇑2),("log",⇑b),("held",⇑(b+1)),("stop",↑0),("fault",↑0),("strange",↑0),("this",.J [↑70,↑71]),("lids",⇑(b+11)),(ia,⇑(b+18))]]
def JI{d:O}:g5 d K D=K ⇑D.length (D++[d]):=j
def h7{d:O}{g:List O}{i:Nat}(z:g.length=i):g5 d K (D++g)=K ⇑(D.length+i) (D++(g++[d])):=by rw[JI,cu,z,ez]
theorem aeV:ag C (k+1) "_law_world" [⇑2] D=.ok ⇑(D.length+19) (D++oQ D.length):=by rw[ad4,JI];rw[h7 (i:=1) j,h7 (i:=2) j,h7 (i:=3) j,h7 (i:=4) j,h7 (i:=5) j,h7 (i:=6) j,h7 (i:=7) j,h7 (i:=8) j,h7 (i:=9) j,h7 (i:=10) j,h7 (i:=11) j,h7 (i:=12) j,h7 (i:=13) j,h7 (i:=14) j,h7 (i:=15) j,h7 (i:=16) j,h7 (i:=17) j,h7 (i:=18) j,h7 (i:=19) j];rfl
def S0(g:List O)(i:Nat):(D++g)[D.length+i]?=g[i]? :=by rw[kE (bv ..),Nat.add_sub_cancel_left]
def oM(b:Nat):List Nat:=[b+12,b+13,b+14,b+15,b+16,b+17]
def ym(Y:Nat):Nat:=match i7 Y 12 with
 |true=>Y
 |false=>Y+6
theorem N4(y Y:Nat):e8 y Y=y+ym Y:=by unfold e8 ym;cases i7 Y 12<;>rfl
def aeT(y Y:Nat)(z:Y<14):(oQ y)[ym Y]?=(gX y (oM y) hb [] (.aX []))[Y]? :=by let Q:((DZ 14).map λY=>(oQ y)[ym Y]?)[Y]?=((gX y (oM y) hb [] (.aX [])).map I)[Y]? :=j;let c:Y<(gX y (oM y) hb [] (.aX [])).length:=z;rw[rt,rt,afh z,lU c] at Q;rw[lU c];show bR Q
def u9{q:Nat}(z:q∈oM b):b+12<=q/\q<b+18:=(bg.mpr #[#[bq _,mJ () b],bg.mpr #[#[e3 () b,mJ () b],bg.mpr #[#[e3 () b,mJ () b],bg.mpr #[#[e3 () b,mJ () b],bg.mpr #[#[e3 () b,mJ () b],bg.mpr #[#[e3 () b,mJ () b],nofun]]]]]]:∀q∈oM b,b+12<=q/\q<b+18) q z
def zip_get{l:List aq}{m:List aC}{Q:aq×aC->Prop}(z:∀v∈l.zip m,Q v){i:Nat}{E:aq}{y:aC}(f:l[i]?=I E)(o:m[i]?=I y):Q (E,y):=z _ (rx.mpr #[i,List.getElem?_zip_eq_some.mpr #[f,o]])
def aeU(O:∃E i,D[2]?=I (sk E i))(C:13<=D.length)(d:n.m<=100000)(a:n.cI=[]):aE n D.length (oM D.length) hb (D++oQ D.length):=by
 let s:=λi=>S0 (D:=D) (oQ D.length) i;show#[#[[],.aX [],#[λY c=>?_,O.imp λE z=>z.imp λi b=>h6 b,C,j,λi q r f o=>?_,λq x=> #[#[(u9 x).1,.inl (u9 x).2],?_],?_,λr A=>?_],#[j,λi e e z e=>by cases z],.inl #[j,j]],ff _,ao (ds (em _)) d,cc j,λY z=>by rw[a] at z;cases z]
 .rw[N4];show(s _).trans (aeT _ Y c)
 .show zip_get (l:=oM D.length) (m:=hb.a2) (Q:=λv=>(D++oQ D.length)[v.1]?=I (.list v.2.cV)) (bg.mpr #[s 12,bg.mpr #[s 13,bg.mpr #[s 14,bg.mpr #[s 15,bg.mpr #[s 16,bg.mpr #[s 17,nofun]]]]]]) f o
 .rw[cu];show oX (u9 x).2 (mJ (by decide:18<20) _)
 .show ah3 (l:=[12,13,14,15,16,17]) (λi=>D.length+i) (λE y z b=>z (Nat.add_left_cancel b)) (by decide:List.Nodup [12,13,14,15,16,17])
 .show cc (j'.mp (by rfl':hb.a2.all (λr=>b' r.cV.length 2000)=L) r A)
def qz:jv V->Option (V×W)
 |.ok v w=>I (V.J [.str "value",v],w)
 |.exc w=>I (if w.stop=0 then V.J [.str "thrown",↑w.fault] else V.J [.str "stop",↑0],w)
 |.ab=>au
abbrev I'(s v Q A:V):ap:=nf s v Q A
abbrev B0(a v Q A s:V):ap:=[("g",a),(ho,v),("e",Q),("w",A),("s",s)]
def EU(a b Q A:V):List Nat->V->bl->Prop:=λc v M=>M=.next (rq a b Q A (.J [.str "value",v]))\/∃s,M=.next [("g",a),(ho,b),("e",Q),("w",A),("s",s),("end",.J [.str "value",v])]
structure NK(k b:Nat)(p:Nat)(a6:List V)(q:List bc)(pre:List V)(n:eB)(an:List Nat)(w:W)(D:aG):Prop where
 kv:hF q=L
 xx:dY q<=k
 qF:pre++ca q=a6
 cz:D[p]?=I (.list a6)
 Q:aE n b an w D
 hm:cG q<=n.m
 pt:p∉an
 ks:p∉n.X
def wz(C:List O)(k b:Nat)(a:V)(v:Nat)(Q:ah)(r:List V)(l:List bc):Prop:=∀(x:List V)(n:eB)(an:List Nat)(w:W)(D:aG)(Y:ap),NK k b v r l x n an w D->(Y=I' a ⇑v (ax Q) ⇑(b+19)\/∃s,Y=B0 a ⇑v (ax Q) ⇑(b+19) s)->
  am #[0,n.cI,n.X] b an w D (EU a ⇑v (ax Q) ⇑(b+19)) (h5 (sJ C k ek [1,0] 45 q5) v (ca l).length x.length Y (ta C k ek 46)) ((execs l).G λc=>eval Q)
theorem act{s:V}{v:Nat}(a:e9 e=L)(f:cy e<=k):wz C k b s v e a6 []:=λx U i A p Y y c=>by
 let d:=t_ (C:=C) a f U b i A p y.Q;show am.eo (BZ y.cz (ds (aN y7 (y.qF.symm.trans (dS _))))) (am.wO (i0:=(eval e).G P.N) (congrFun (q4 (eval e)).symm A) ?_);let o:g_ U #[0,U.cI,U.X]:=qO (ff _);obtain rfl|⟨D,rfl⟩:=c
 .rw[adK];show am.G d (λu E B H z g q T g=>by rw[q];show am.N (T.le o) (.inl j)) o
 .rw[adL];show am.G d (λu E B H z g q T g=>by rw[q];show am.N (T.le o) (.inr #[D,j])) o
theorem acr{s:V}{v:Nat}{D:bc}{q:List bc}(t:v<b)(w:wz C k b s v e a6 q):wz C k b s v e a6 (D::q):=λx U i A p Y y c=>by
 let N:=aw (show(pZ D&&hF q)=L from y.kv);let O:=g9.mp (show max (kt D) (dY q)<=k from y.xx);let g:a6[x.length]?=I (fJ D):=by rw[<-y.qF,kE (bq _),p9];rfl
 let f:h5 (sJ C k ek [1,0] 45 q5) v (ca (D::q)).length x.length Y (ta C k ek 46) p=((ag C k fB [⇑(b+19),fJ D]).G λl=>h5 (sJ C k ek [1,0] 45 q5) v (ca q).length (x.length+1) (B0 s ⇑v (ax e) ⇑(b+19) (fJ D)) (ta C k ek 46)) p:=by
  show(BY y.cz g).trans (congrFun ?_ p);obtain rfl|⟨a,rfl⟩:=c
  .show adI ..
  .show adJ ..
 let r:=(c5.mp y.cz).1;show am.eo f (am.wO (congrFun (d6 (exec D) _ _) A) ?_);show am.G (Rd D N.1 k O.1 U b i A p (cG q) y.Q (ao (ds (j1 ..)) y.hm)) (λu E B H h l l T d=>?_) (qO (n:= #[cG q,U.cI,U.X]) (ff _));let J:=w (x++[fJ D]) #[cG q,U.cI,U.X] _ _ _ (B0 s ⇑v (ax e) ⇑(b+19) (fJ D)) #[N.2,O.2,(ez ..).trans y.qF,(d.fr v r (.inl t) y.pt y.ks).trans y.cz,T,bq _,λz=>(d9.mp z).elim y.pt λz=>hp _ (fF r (d.qX v z)),y.ks] (.inr #[_,j]);rw[cu] at J;show J
theorem acs{g:V}{p:Nat}(t:p<b)(a:e9 e=L)(c:cy e<=k)(l:List bc):wz C k b g p e a6 l:=by
 induction l with
 |nil=>show act a c
 |cons D q w=>show acr t w
theorem wA{g p e:V}(d:aE n b an w D):(aJ C ⇑(b+19) (.str "log")).G (λE=>(aJ C ⇑(b+19) (.str "lids")).G λB=>(aJ C ⇑(b+19) (.str ia)).G λa=>(aJ C ⇑(b+19) (.str "this")).G λx=>(aJ C ⇑(b+19) (.str "strange")).G λt=>M.N (V.J [E,u,B,a,x,t])) D=.ok (V.J [⇑b,u,⇑(b+11),⇑(b+18),cU w.this.1 w.this.2,↑0]) D:=by let f:aJ C ⇑(b+19) (.str "log") D=.ok ⇑b D:=d.su;let o:aJ C ⇑(b+19) (.str "lids") D=.ok ⇑(b+11) D:=d.uy;let c:aJ C ⇑(b+19) (.str ia) D=.ok ⇑(b+18) D:=d.mc;let h:aJ C ⇑(b+19) (.str "this") D=.ok (cU w.this.1 w.this.2) D:=d.By;let O:aJ C ⇑(b+19) (.str "strange") D=.ok ↑0 D:=d.oO #[];rw[a8 f,a8 o,a8 c,a8 h,a8 O];rfl
inductive Aj(C:List O)(D:aG)(u:V)(eN:W)(R:bA V):Prop
 |mk (s:aG) (an:List Nat) (n:eB) (h:R=.ok (.J [⇑D.length,u,⇑(D.length+11),⇑(D.length+18),cU eN.this.1 eN.this.2,↑0]) s) (Q:aE n D.length an eN s) (b:D.length<=s.length) (j:∀i,i<D.length->s[i]?=D[i]?):Aj C D u eN R
def Mf(C:List O)(k v:Nat)(Q:ah)(b:Nat):bA bl->bA V
 |.ok r y=>fl (az C (k+1) ek [1] 48) M.N r y
 |.exc y=>xp C ⇑2 ⇑v (ax Q) ⇑(b+19) (az C (k+1) ek [1] 48) y
 |.ab=>.ab
def J0{eV:V->M V}{T:ap}:fl b8 eV (.next T) D=b8 T D:=j
theorem Td{s a Q:V}(h:aJ C v (.str "stop") D=.ok ↑i D)(z:i≠0):xp C s a Q v b8 D=b8 (rq s a Q v (.J [.str "stop",↑0])) D:=by show(a8 h).trans ?_;rw[show dp C ↑i=M.N (!↥(i=0)) from j,a_,f8 z];rfl
def Te{s a Q u:V}(h:aJ C v (.str "stop") D=.ok ↑0 D)(b:aJ C v (.str "fault") D=.ok u D):xp C s a Q v b8 D=b8 (rq s a Q v (.J [.str "thrown",u])) D:=(a8 h).trans (a8 b)
theorem aeO{v:Nat}{d:jv V}{m:M bl}{H:W}(T:lY n dI.length an D (EU ⇑2 ⇑v (ax e) ⇑(dI.length+19)) m d)(c:qz d=I (u,H))(j:∀{q:List Nat}{z:aG},de n dI.length an q D z->dI.length<=z.length/\∀i,i<dI.length->z[i]?=dI[i]?):Aj C dI u H (Mf C k v e dI.length (m D)):=by
 cases d with
 |ab=>cases c
 |ok B J=>
  injection c with c
  injection c with f o
  subst f;subst o;obtain⟨r,z,q,f,o,a,b⟩:=T;rw[f];show#[z,_,_,?_,a,(j b).1,(j b).2];obtain rfl|⟨s,rfl⟩:=o
  .show(J0 (b8:=az C (k+1) ek [1] 48) (eV:=M.N)).trans ((congrFun (DN ..) z).trans (wA (g:=.none) (p:=.none) (e:=.none) a))
  .show(J0 (b8:=az C (k+1) ek [1] 48) (eV:=M.N)).trans ((congrFun (ad3 ..) z).trans (wA (g:=.none) (p:=.none) (e:=.none) a))
 |exc J=>
  injection c with c
  injection c with f o
  subst f;subst o;obtain⟨z,q,f,a,b⟩:=T;rw[f];show#[z,_,_,?_,a,(j b).1,(j b).2];let h:aJ C ⇑(dI.length+19) (.str "stop") z=.ok ↑J.stop z:=a.oO #[];by_cases l:J.stop=0
  .rw[aL l];rw[l] at h;show(Te h (a.oO #[])).trans ((congrFun (DN ..) z).trans (wA (g:=.none) (p:=.none) (e:=.none) a))
  .rw[aS l];show(Td h l).trans ((congrFun (DN ..) z).trans (wA (g:=.none) (p:=.none) (e:=.none) a))
theorem Mi(O:∃E i,D[2]?=I (sk E i))(m:13<=D.length){p:Nat}{q:List bc}(t:D[p]?=I (.list (ca q)))(d:hF q=L)(a:e9 e=L)(r:dY q<=k+1)(V:cy e<=k+1)(v:cG q<=100000){eN:W}(N:qz (((execs q).G λs=>eval e) hb)=I (u,eN)):
  Aj C D u eN (ag C (k+2) ek [⇑2,⇑p,ax e] D):=by
 let l:=(c5.mp t).1;let y:aE #[cG q,[],[]] D.length (oM D.length) hb (D++oQ D.length):=aeU O m v j;let c:p∉oM D.length:=λz=>hp _ (fF l (ao (bv ..) (u9 z).1));let T:=acs (C:=C) (k:=k+1) (g:= ⇑2) (p:=p) (b:=D.length) (e:=e) (a6:=ca q) l a V q [] _ _ _ _ (I' ⇑2 ⇑p (ax e) ⇑(D.length+19)) #[d,r,j,h6 t,y,bq _,c,nofun] (.inl j);let f:ag C (k+2) ek [⇑2,⇑p,ax e] D=Mf C k p e D.length (yY C (k+1) ek 1 47 (nf ⇑2 ⇑p (ax e) ⇑(D.length+19)) (D++oQ D.length)):=by rw[adZ,ad0,a8 aeV,ad1,ad2]<;>rfl
 rw[f,show yY C (k+1) ek 1 47 (nf ⇑2 ⇑p (ax e) ⇑(D.length+19)) (D++oQ D.length)=_ from(congrFun (adH ..) _).trans (Bg (h6 t))];show aeO T N λ{n o} h=> #[ao (by rw[cu];show bv ..) h.len,λi J=>(h.fr i (by rw[cu];show fF J (bv ..)) (.inl J) (λz=>hp _ (fF J (ao (bv ..) (u9 z).1))) nofun).trans (eP J)]
end
variable{z d:Nat}
section
mutual
noncomputable def c2:ah->Nat
 |.mk h aa=>(if gd h then 1 else 0)+fO aa
noncomputable def fO:List ah->Nat
 |[]=>0
 |e::r=>c2 e+fO r
end
def uF(z:bP):Bool:=cA z.ctorIdx 10
mutual
noncomputable def cO:ah->Nat
 |.mk h aa=>iz aa+(if uF h then 6 else 3)+(if hB h then 3*(aa.length-2) else 0)
noncomputable def iz:List ah->Nat
 |[]=>4
 |e::r=>max (cO e) (iz r)
end
mutual
noncomputable def fa:ah->Nat
 |.mk h aa=>iC aa+1+(if hB h then aa.length-2 else 0)
noncomputable def iC:List ah->Nat
 |[]=>0
 |e::r=>fa e+iC r
end
mutual
noncomputable def l3:bc->Nat
 |.expr _=>0
 |.cD _ _=>0
 |.cb _ _ _=>1
 |.bO _ y n=>hu y+hu n
noncomputable def hu:List bc->Nat
 |[]=>0
 |s::r=>l3 s+hu r
end
mutual
noncomputable def va:bc->Nat
 |.expr e=>c2 e
 |.cD _ e=>c2 e
 |.cb _ _ t=>c2 t
 |.bO t y n=>c2 t+jN y+jN n
noncomputable def jN:List bc->Nat
 |[]=>0
 |s::r=>va s+jN r
end
mutual
noncomputable def lL:bc->List Int
 |.expr _=>[]
 |.cD n _=>[n]
 |.cb n _ _=>[n]
 |.bO _ y n=>fA y++fA n
noncomputable def fA:List bc->List Int
 |[]=>[]
 |s::r=>lL s++fA r
end
theorem wE{t:List aq->Nat}{g:aq->Nat}(u:t []=0)(f:∀D q,t (D::q)=g D+t q)(l:List aq):∀v:List aq,t (v++l)=t v+t l:=by
 intro q
 induction q with
 |nil=>rw[u,em];rfl
 |cons D q w=>rw[zD,f,f,w,fD]
theorem xV{t:List aq->Nat}{g:aq->Nat}(u:t []=z)(f:∀D q,t (D::q)=max (g D) (t q))(l:List aq)(r:z<=t l):∀v:List aq,t (v++l)=max (t v) (t l):=by
 intro q
 induction q with
 |nil=>rw[u,afD r];rfl
 |cons D q w=>rw[zD,f,f,w,Nat.max_assoc]
theorem Ao{t:List aq->Bool}{g:aq->Bool}(u:t []=L)(f:∀D q,t (D::q)=(g D&&t q))(l:List aq):∀v:List aq,t (v++l)=(t v&&t l):=by
 intro q
 induction q with
 |nil=>rw[u,zh];rfl
 |cons D q w=>rw[zD,f,f,w,Bool.and_assoc]
theorem Jq{t:List aq->Nat}{g:aq->Nat}(f:∀D q,t (D::q)=max (g D) (t q)){v:List aq}:∀D∈v,g D<=t v:=by
 induction v with
 |nil=>show λa z=>nomatch z
 |cons D q w=>rw[f];show bg.mpr #[f7 ..,λu T=>ao (w u T) (f1 ..)]
def Ok(v l:List bc):hu (v++l)=hu v+hu l:=wE (g:=l3) j (λa a=>j) l v
def Wg(v l:List bc):jN (v++l)=jN v+jN l:=wE (g:=va) j (λa a=>j) l v
theorem abc:∀v l:List bc,fA (v++l)=fA v++fA l:=by
 intro q
 induction q with
 |nil=>intro l;show j
 |cons D q w=>intro l;show(aN (lL D++ ·) (w l)).trans (ez ..).symm
def ZU(v l:List bc):hF (v++l)=(hF v&&hF l):=Ao (g:=pZ) j (λa a=>j) l v
def aay(v l:List bc):dY (v++l)=max (dY v) (dY l):=xV (g:=kt) j (λa a=>j) l (ff _) v
mutual
theorem Cf:∀e:ah,ct e=ak->c2 e=0
 |.mk h aa,x=>by rw[un,D3] at x;split (if gd h then 1 else 0)+fO aa=0;rw[JA aa x.2,x.1];rfl
theorem JA:∀aa:List ah,dQ aa=ak->fO aa=0
 |[],_=>rfl
 |e::r,x=>by let x:=D3.mp (show(ct e||dQ r)=ak from x);split c2 e+fO r=0;rw[Cf e x.1,JA r x.2]
end
def V6:∀Q∈aa,cO Q<=iz aa:=Jq (g:=cO) λa a=>j
mutual
theorem u8:∀e:ah,cy e+2<=cO e
 |.mk h aa=>by
  let t:3<=(if uF h then 6 else 3):=by cases uF h<;>decide
  show ao (ds (nC _ _ 2)) (c_ (ao (c_ (Ju aa) 3) (e3 t _)) _)
theorem Ju:∀aa:List ah,gI aa+2<=iz aa
 |[]=>bq _
 |e::r=>by show Jr (u8 e) (Ju r)
end
def xW:∀Q∈aa,cO Q+(if uF h then 6 else 3)<=cO (.mk h aa):=λQ V=>ao (c_ (V6 Q V) _) (bv ..)
def B':iz aa<=cO (.mk h aa):=ao (bv ..) (bv ..)
structure fj(p:List bc)(a:Nat)(S:Int->Prop)(d:Nat):Prop where
 na:hu p=a
 oz:jN p=0
 ai:∀n,n∈fA p↔S n
 kv:hF p=L
 cs:dY p<=d
def dt(g p:Int):Int->Prop:=λn=>g<n/\n<=p
variable{a b dO:Nat}{S l1:Int->Prop}{F9:Int}{q:List bc}
theorem dt.none(U:Int):U∈([]:List Int)↔dt c c U:= #[(λz=>nomatch z),λz=>cH (v9 z.1 z.2) (Ey c)]
theorem dt.join(f:c<=bW)(o:bW<=aF)(U:Int):dt c bW U\/dt bW aF U↔dt c aF U:= #[λu=>u.elim (λE=> #[E.1,fg E.2 o]) λy=> #[nM f y.1,y.2],λu=>(ahQ (U<=bW)).elim (λT=>.inl #[u.1,T]) λT=>.inr #[EB.mp T,u.2]]
theorem dt.eq(U:Int):U=c+1↔dt c (c+1) U:= #[λz=>by rw[z];show#[mO c,kD _],λz=>Int.le_antisymm z.2 z.1]
theorem dt.fb(z:c<=bW)(U:Int):dt c bW U\/U=bW+1↔dt c (bW+1) U:=(or_congr MN (dt.eq U)).trans (dt.join z (iJ (mO _)) U)
theorem dt.aM(z:c+1<=aF)(U:Int):dt (c+1) aF U\/U=c+1↔dt c aF U:=or_comm.trans ((or_congr (dt.eq U) MN).trans (dt.join (iJ (mO _)) z U))
theorem dt.two(h:c+1<=bW)(s:bW<=aF)(U:Int):(dt (c+1) bW U\/U=c+1)\/(dt bW aF U\/U=c+1)↔dt c aF U:= #[λu=>u.elim (λE=>(dt.join (iJ h) s U).mp (.inl ((dt.aM h U).mp E))) λu=>u.elim (λy=>(dt.join (iJ h) s U).mp (.inr y)) λQ=>(dt.join (iJ h) s U).mp (.inl ((dt.aM h U).mp (.inr Q))),λu=>((dt.join (iJ h) s U).mpr u).elim (λE=>.inl ((dt.aM h U).mpr E)) λy=>.inr (.inl y)]
theorem fj.nil:fj [] 0 (dt c c) d:= #[j,j,dt.none,j,ff _]
theorem fj.app(t:fj p a S d)(s:fj q b l1 d):fj (p++q) (a+b) (λU=>S U\/l1 U) d:=by show#[by rw[Ok,t.na,s.na],by rw[Wg,t.oz,s.oz],λU=>?_,by rw[ZU,t.kv,s.kv];rfl,by rw[aay];show g9.mpr #[t.cs,s.cs]];rw[abc,d9,t.ai,s.ai]
theorem fj.up(t:fj p a S d)(T:d<=dO):fj p a S dO:= #[t.na,t.oz,t.ai,t.kv,ao t.cs T]
theorem fj.iff(t:fj p a S d)(s:∀U,S U↔l1 U):fj p a l1 d:= #[t.na,t.oz,λU=>(t.ai U).trans (s U),t.kv,t.cs]
theorem fj.num(t:fj p a S d)(s:a=b):fj p b S d:=s▸t
def Ap{E:Bool}(z:E=L):(E&&L)=L:=(Mq E).trans z
def yf{D:bc}(T:kt D<=d):dY [D]<=d:=g9.mpr #[T,ff _]
def J4(u U:Int):U∈[u]↔U=u:=fC
theorem fj.expr(k:c2 e=0)(u:e9 e=L)(T:cy e+1<=d):fj [.expr e] 0 (dt c c) d:= #[j,k,dt.none,Ap u,yf T]
theorem fj.cD(k:c2 e=0)(u:e9 e=L)(T:cy e+1<=d)(Y:Int):fj [.cD Y e] 0 (· =Y) d:= #[j,k,J4 Y,Ap u,yf T]
theorem fj.cb{n:Int}(k:c2 e=0)(u:e9 e=L)(T:cy e+2<=d)(Y:Int):fj [.cb Y n e] 1 (· =Y) d:= #[j,k,J4 Y,Ap u,yf T]
theorem fj.bO(k:c2 e=0)(u:e9 e=L)(T:cy e+2<=d)(t:fj p a S dO)(s:fj q b l1 dO)(cp:dO+6<=d):fj [.bO e p q] (a+b) (λU=>S U\/l1 U) d:=by
 show#[?_,?_,λU=>?_,?_,yf ?_]
 .split hu p+hu q+0=_;rw[t.na,s.na];rfl
 .split c2 e+jN p+jN q+0=0;rw[k,t.oz,s.oz]
 .split U∈fA p++fA q++[]↔_;rw[dS,d9,t.ai,s.ai]
 .split (e9 e&&hF p&&hF q&&L)=L;rw[u,t.kv,s.kv];rfl
 .show VW T (ao (c_ (g9.mpr #[t.cs,s.cs]) 6) cp)
structure qg(e cn:ah):Prop where
 n0:c2 cn=0
 f0:bG cn.aM=bG e.aM
 wY:m8 e=L->m8 cn=L
 ok:dq cn=L
 ce:cy cn<=cy e
structure c0(m:Nat)(e:ah)(c:Int)(p:List bc)(cn:ah)(aF:Int):Prop extends qg e cn where
 dE:fj p (c2 e) (dt c aF) (cO e)
 le:c<=aF
 cJ:cG p+m<=4*fa e
theorem c0.na(t:c0 m e c p cn aF):hu p=c2 e:=t.dE.na
theorem c0.oz(t:c0 m e c p cn aF):jN p=0:=t.dE.oz
theorem c0.ai(t:c0 m e c p cn aF):∀U,U∈fA p↔c<U/\U<=aF:=t.dE.ai
theorem c0.kv(t:c0 m e c p cn aF):hF p=L:=t.dE.kv
theorem c0.cs(t:c0 m e c p cn aF):dY p<=cO e:=t.dE.cs
structure hK(aa:List ah)(c:Int)(p:List bc)(dn:List ah)(aF:Int):Prop where
 dE:fj p (fO aa) (dt c aF) (iz aa)
 le:c<=aF
 n0:fO dn=0
 ln:dn.length=aa.length
 f0:(dn.map λe=>bG e.aM)=aa.map λe=>bG e.aM
 wY:aa.all m8=L->dn.all m8=L
 ok:i5 dn=L
 ce:gI dn<=gI aa
 cJ:cG p<=4*iC aa
def abV(Q:ah):1<=fa Q:=by obtain⟨z,H⟩:=Q;show ao (fE ..) (bv ..)
theorem pP{y:Bool}(z:y=ak):(!y)=L:=by rw[z];rfl
theorem qg.qA(t:qg e cn)(x:bG e.aM=ak):e9 cn=L:=a9 t.ok (by rw[t.f0,x];rfl)
theorem qg.qT(t:qg e cn):cy cn+2<=cO e:=ao (c_ t.ce 2) (u8 e)
theorem c0.refl(a:dq e=L)(u:ct e=ak):c0 3 e c [] e c:= #[#[Cf e u,j,id,a,bq _],fj.nil.num (Cf e u).symm,kD _,ao (by decide:0+3<=4*1) (nD 4 (abV e))]
theorem c0.to2(t:c0 3 e c p cn aF):c0 2 e c p cn aF:= #[t.toqg,t.dE,t.le,hH t.cJ]
theorem abo{p U:Int}(z:0<=p):dq (jq p U)=L:=by split (↥(0<=p)&&L&&L&&L&&L&&(ak||pY [])&&i5 [])=L;rw[cW z];rfl
def aeW(u:dq e=L):0<=e.kind:=by cases e with|mk z H=>show(h' u).aQ
theorem qg.slot{p a:Int}(z:0<=p)(x:bG e.aM=ak)(U:m8 e=ak):qg e (jq p a):= #[j,x.symm,λz=>(by rw[U] at z;cases z),abo z,pv e]
theorem c0.cD(t:c0 3 e (c+1) p cn aF)(u:dq e=L)(x:bG e.aM=ak)(U:m8 e=ak):c0 2 e c (p++[.cD (c+1) cn]) (jq e.kind (c+1)) aF:=by show#[.slot (aeW u) x U,(t.dE.app (.cD t.n0 (t.qA x) (hH t.qT) (c+1))).iff (dt.aM t.le),iJ t.le,?_];rw[mq];show(fD ..).symm▸t.cJ
theorem hK.nil:hK [] c [] [] c:= #[.nil,kD _,j,j,j,id,j,bq _,bq _]
theorem hK.cons(t:c0 m e c p cn bW)(s:hK aa bW q dn aF):hK (e::aa) c (p++q) (cn::dn) aF:=by
 show#[((t.dE.up (f7 ..)).app (s.dE.up (f1 ..))).iff (dt.join t.le s.le),fg t.le s.le,?_,aN (· +1) s.ln,?_,λz=>?_,a9 t.ok s.ok,?_,?_]
 .split c2 cn+fO dn=0;rw[t.n0,s.n0]
 .rw[th,th,t.f0,s.f0]
 .show a9 (t.wY (aw z).1) (s.wY (aw z).2)
 .show g9.mpr #[ao t.ce (f7 ..),ao s.ce (f1 ..)]
 .rw[mq];show ao (i6 (ao (bv ..) t.cJ) s.cJ) (ds (Mx 4 _ _).symm)
theorem hK.one(t:c0 m e c p cn aF):hK [e] c p [cn] aF:=by have:=hK.cons t .nil;rw[dS] at this;show this
theorem hK.refl:∀(H:List ah)(g:Int),i5 H=L->dQ H=ak->hK H g [] H g:=by
 intro a
 induction a with
 |nil=>intro g _ _;show .nil
 |cons Q a w=>intro g u z;let z:=D3.mp (show(ct Q||dQ a)=ak from z);show hK.cons (p:=[]) (q:=[]) (c0.refl (aw u).1 z.1) (w g (aw u).2 z.2)
theorem KP(T:List ah):pY T=(T.map λQ=>bG Q.aM).all (λy=> !y):=by rw[ahm];rfl
theorem UF(J:f' h aa)(t:hK aa c p dn aF):dq (.mk h dn)=L:=by
 let v:vf h dn=L:=by
  have:=J.yc;cases h
  case ew=>unfold vf at this|-;rw[My] at this|-;show this.imp id t.wY
  all_goals rfl
 let x:(p2 h||pY dn)=L:=by
  obtain f|f:=J.f0
  .rw[f];rfl
  .rw[KP,t.f0,<-KP,My];show .inr (j'.mpr λQ V=>by rw[f Q V];rfl)
 show a9 (a9 (a9 (a9 (a9 (a9 (cW J.aQ) J.aM) (t.ln▸J.bF)) (j2.mpr (t.ln▸J.le))) v) x) t.ok
theorem c0.dK(J:f' h aa)(A:gd h=ak)(t:hK aa c p dn aF):c0 3 (.mk h aa) c p (.mk h dn) aF:=by
 let g:∀aa,c2 (.mk h aa)=fO aa:=λaa=>by split (if gd h then 1 else 0)+fO aa=fO aa;rw[A];show em _
 show#[#[(g _).trans t.n0,j,λm=>?_,UF J t,?_],(t.dE.up B').num (g _).symm,t.le,?_]
 .cases h
  case const=>rfl
  all_goals cases m
 .split gI dn+3+(if hB h then 3*(dn.length-2) else 0)<=gI aa+3+(if hB h then 3*(aa.length-2) else 0);rw[t.ln];show c_ (c_ t.ce _) _
 .have:=t.cJ;split cG p+3<=4*(iC aa+1+_);omega
theorem c0.cb{r V:ah}{n:Int}(J:f' (.cb n) [r])(t:c0 3 r c p V bW)(x:bG r.aM=ak):c0 3 (.mk (.cb n) [r]) c (p++[.cb (bW+1) n V]) (jq n (bW+1)) (bW+1):=by let T:cO r<=cO (.mk (.cb n) [r]):=ao (bv ..) (xW (h:=.cb n) r (.head _));show#[.slot J.aQ j j,(((t.dE.up T).app (.cb t.n0 (t.qA x) (ao t.qT T) (bW+1))).iff (dt.fb t.le)).num (j1 (c2 r) 1),iJ (agW t.le),?_];rw[mq];have:=t.cJ;split cG p+1+3<=4*(fa r+0+1+0);omega
theorem c0.bO{r V E l y B:ah}{n:Int}(J:f' (.bO n) [r,E,y])(t:c0 3 r c p V bW)(b:c0 3 E (bW+1) jl l eS)(d:c0 3 y eS pU B F9)(x:bG r.aM=ak/\bG E.aM=ak/\bG y.aM=ak):c0 3 (.mk (.bO n) [r,E,y]) c (p++[.bO V (jl++[.cD (bW+1) l]) (pU++[.cD (bW+1) B])]) (jq n (bW+1)) F9:=by
 let e:cO r+6<=cO (.mk (.bO n) [r,E,y]):=xW (h:=.bO n) r (.head _);let w:cO E<=max (cO E) (cO y):=f7 ..;let o:cO y<=max (cO E) (cO y):=f1 ..;let a:max (cO E) (cO y)+6<=cO (.mk (.bO n) [r,E,y]):=Nat.add_le_of_le_sub (fE ..) (g9.mpr #[Mw (xW (h:=.bO n) E (.tail _ (.head _))),Mw (xW (h:=.bO n) y (.tail _ (.tail _ (.head _))))]);let T:=fj.bO t.n0 (t.qA x.1) (ao t.qT (ao (bv ..) e)) ((b.dE.up w).app (.cD b.n0 (b.qA x.2.1) (ao (hH b.qT) w) (bW+1))) ((d.dE.up o).app (.cD d.n0 (d.qA x.2.2) (ao (hH d.qT) o) (bW+1))) a;show#[.slot J.aQ j j,(((t.dE.up (ao (bv ..) e)).app T).iff λU=>(or_congr MN (dt.two b.le d.le U)).trans (dt.join t.le (fg (iJ b.le) d.le) U)).num ?_,fg t.le (fg (iJ b.le) d.le),?_]
 .split _=0+(c2 r+(c2 E+(c2 y+0)));omega
 .rw[mq];split cG p+(cG (jl++[_])+cG (pU++[_])+1)+3<=4*(fa r+(fa E+(fa y+0))+1+0);rw[mq,mq];split cG p+(cG jl+1+(cG pU+1)+1)+3<=_;have:=t.cJ;have:=b.cJ;have:=d.cJ;omega
theorem c0.look(t:c0 3 e c p cn aF)(x:bG e.aM=ak):c0 2 e c (p++[.expr cn]) cn aF:= #[t.toqg,(t.dE.app (.expr (c:=aF) t.n0 (t.qA x) (hH t.qT))).iff (dt.join t.le (kD _)),t.le,by rw[mq];show(fD ..).symm▸t.cJ]
abbrev gE(m:Nat)(Q:ah)(g:Int):eg->Prop:=λr=>c0 m Q g r.1 r.2.1 r.2.2
structure EO(es:List ah)(c:Int)(p:List bc)(aF:Int):Prop where
 dE:fj p (fO es) (dt c aF) (iz es)
 le:c<=aF
 cJ:cG p<=4*iC es
theorem V7{t:ah->Int->Option eg}:∀(b:List ah)(g:Int),(∀Q∈b,∀g,a7 (gE 3 Q g) (t Q g))->(∀Q∈b,bG Q.aM=ak)->a7 (λq=>EO b g q.1 q.2) (qU t b g):=by
 intro q
 induction q with
 |nil=>intro g n x;show#[.nil,kD _,bq _]
 |cons Q q w=>intro g n x;show(n Q (.head _) g).G λu c=>(w u.2.2 (λQ V=>n Q (.tail _ V)) λQ V=>x Q (.tail _ V)).G λe s=>by let c:=c.look (x Q (.head _));split EO _ g (u.1++.expr u.2.1::e.1) e.2;rw[show u.1++.expr u.2.1::e.1=(u.1++[.expr u.2.1])++e.1 from(ez u.1 [.expr u.2.1] e.1).symm];show#[((c.dE.up (f7 ..)).app (s.dE.up (f1 ..))).iff (dt.join c.le s.le),fg c.le s.le,by rw[mq];show ao (i6 (ao (bv ..) c.cJ) s.cJ) (ds (Mx 4 _ _).symm)]
theorem Jy{t s:ah->Int->Option eg}:∀(U:Nat)(H:List ah)(g:Int),U=jh H->i5 H=L->(∀Q∈H,∀g,a7 (gE 3 Q g) (t Q g))->(∀Q∈H,∀g,a7 (gE 2 Q g) (s Q g))->a7 (λq=>hK H g q.1 q.2.1 q.2.2) (nn s t U H g)
 |0,[],g,_,_,_,_=>trivial
 |_+1,[],g,_,_,_,_=>trivial
 |0,Q::q,g,v,u,n,a=>(n Q (.head _) g).G λe c=>by
  let x:dQ q=ak:=by
   let v:0=if dQ q then jh q+1 else 0:=v;rcases m:dQ q with _|_
   .rfl
   .rw[m,aL j] at v;cases v
  have:=hK.cons c (hK.refl q e.2.2 (aw u).2 x);rw[dS] at this;show this
 |U+1,Q::q,g,v,u,n,a=>by
  let x:U=jh q:=by
   let v:U+1=if dQ q then jh q+1 else 0:=v;rcases m:dQ q with _|_
   .rw[m,aS kA] at v;cases v
   .rw[m,aL j] at v;show tm v
  show(a Q (.head _) g).G λe c=>(Jy U q e.2.2 x (aw u).2 (λQ V=>n Q (.tail _ V)) λQ V=>a Q (.tail _ V)).G λo s=>hK.cons c s
end
section
variable{q:List bc}
def Wf(E y:List ah):fO (E++y)=fO E+fO y:=wE (g:=c2) j (λa a=>j) y E
def abW(E y:List ah):iC (E++y)=iC E+iC y:=wE (g:=fa) j (λa a=>j) y E
theorem Gl:∀H,2<=gI H:=by
 intro q
 induction q with
 |nil=>show bq _
 |cons Q q w=>show ao (w) (f1 ..)
def PX(E y:List ah):gI (E++y)=max (gI E) (gI y):=xV (g:=cy) j (λa a=>j) y (Gl y) E
theorem V4:∀H,4<=iz H:=by
 intro q
 induction q with
 |nil=>show bq _
 |cons Q q w=>show ao (w) (f1 ..)
def V5(E y:List ah):iz (E++y)=max (iz E) (iz y):=xV (g:=cO) j (λa a=>j) y (V4 y) E
def aeX(E y:List ah):i5 (E++y)=(i5 E&&i5 y):=Ao (g:=dq) j (λa a=>j) y E
def Pk{u e:ah}(T:dq u=L)(M:dq e=L)(g:bG u.aM=ak)(p:bG e.aM=ak):dq (en u e)=L:=a9 (a9 j (a9 (pP g) (a9 (pP p) j))) (a9 T (a9 M j))
theorem fold_max{f:ah->Nat}(o:∀u e,f (en u e)=max (f u) (max (f e) z)+av)(Q:∀u,z<=f u){F:List ah->Nat}(a:∀D q,F (D::q)=max (f D) (F q)):∀(q:List ah)(e:ah),f (q.foldl en e)<=max (f e) (F q)+av*q.length:=by
 intro q
 induction q with
 |nil=>intro e;show f7 ..
 |cons u q w=>intro e;let b:=w (en e u);let c:=Q u;rw[o] at b;rw[a,oW,afG,j1 (av*q.length),<-fD];show ao b (c_ (g9.mpr #[c_ (g9.mpr #[f7 ..,ao (g9.mpr #[f7 ..,ao c (f7 ..)]) (f1 ..)]) _,ao (ao (f1 ..) (f1 ..)) (bv ..)]) _)
structure Nw(r:List ah)(y:ah):Prop where
 na:c2 (r.foldl en y)=c2 y+fO r
 cJ:fa (r.foldl en y)=fa y+iC r+r.length
 ok:dq (r.foldl en y)=L
 f0:bG (r.foldl en y).aM=ak
theorem RO:∀(q:List ah)(e:ah),dq e=L->bG e.aM=ak->i5 q=L->(∀Q∈q,bG Q.aM=ak)->Nw q e:=by
 intro q
 induction q with
 |nil=>intro e u b _ _;show#[j,j,u,b]
 |cons o q w=>
  intro e u b a x;let n:=w (en e o) (Pk u (aw a).1 b (x o (.head _))) j (aw a).2 λQ V=>x Q (.tail _ V);show#[n.na.trans ?_,n.cJ.trans ?_,n.ok,n.f0]
  .split 0+(c2 e+(c2 o+0))+fO q=c2 e+(c2 o+fO q);omega
  .split fa e+(fa o+0)+1+0+iC q+q.length=fa e+(fa o+iC q)+(q.length+1);omega
def PG(u:ah):2<=cy u:=ao () (pv u)
def V3(u:ah):4<=cO u:=ao (ao () (c_ (pv u) 2)) (u8 u)
structure ka(k:Nat):Prop where
 eX:∀e c,dq e=L->a7 (gE 3 e c) (cq k e c)
 jz:∀aQ t c,f' (.cb aQ) [t]->a7 (gE 3 (.mk (.cb aQ) [t]) c) (pK k aQ t c)
 ch:∀aQ t a b c,f' (.bO aQ) [t,a,b]->a7 (gE 3 (.mk (.bO aQ) [t,a,b]) c) (pL k aQ t a b c)
 parts:∀h aa c,f' h aa->gd h=ak->a7 (gE 3 (.mk h aa) c) (gw k h aa c)
 ci:∀e c,dq e=L->a7 (gE 2 e c) (nm k e c)
 cD:∀e c,dq e=L->a7 (gE 2 e c) (k2 k e c)
 taken:∀e c,dq e=L->a7 (λr=>gE 2 e c r/\bG e.aM=ak) (ou k e c)
def vd(J:f' h aa)(A:p2 h=ak):∀Q∈aa,bG Q.aM=ak:=J.f0.resolve_left λf=>by rw[A] at f;cases f
theorem f'.nb{E:ah}{q:List ah}(J:f' h (E::q)):dq E=L:=(aw J.aa).1
theorem f'.xH{E y:ah}{q:List ah}(J:f' h (E::y::q)):dq y=L:=(aw (aw J.aa).2).1
theorem f'.Ui{E y x:ah}{q:List ah}(J:f' h (E::y::x::q)):dq x=L:=(aw (aw (aw J.aa).2).2).1
def Rj(w:ka k):∀n r g,f' (.cb n) [r]->a7 (gE 3 (.mk (.cb n) [r]) g) (pK (k+1) n r g):=λn r g J=>(w.eX r g J.nb).G λq t=>c0.cb J t (vd J j r (.head _))
theorem Rk(w:ka k):∀n r E y g,f' (.bO n) [r,E,y]->a7 (gE 3 (.mk (.bO n) [r,E,y]) g) (pL (k+1) n r E y g):=λn r E y g J=>
 (w.eX r g J.nb).G λq t=>by
  split a7 _ (if ct E||ct y then _ else _);let m:=vd J j;rcases C:ct E||ct y with _|_
  .rw[D3] at C;have:=hK.cons t (hK.refl [E,y] q.2.2 (aw J.aa).2 (by rw[dQ,dQ,dQ,C.1,C.2];rfl));rw[dS] at this;show c0.dK J j this
  .show(w.eX E _ J.xH).G λe s=>(w.eX y _ J.Ui).G λo i=>c0.bO J t s i #[m r (.head _),m E (.tail _ (.head _)),m y (.tail _ (.tail _ (.head _)))]
def Rn(w:ka k):∀z H g,f' z H->gd z=ak->a7 (gE 3 (.mk z H) g) (gw (k+1) z H g):=λz H g J A=>(Jy _ H g j J.aa (λQ V g=>w.eX Q g (p7 J.aa V)) λQ V g=>w.ci Q g (p7 J.aa V)).G λq t=>c0.dK J A t
theorem Rm(w:ka k):∀Q g,dq Q=L->a7 (gE 2 Q g) (k2 (k+1) Q g):=λQ g u=>by
 let e:∀{Q},dq Q=L->bG Q.aM=ak->m8 Q=ak->a7 (gE 2 Q g) (eI (cq k Q (g+1)) λ(v,J,O)=>I (v++[bc.cD (g+1) J],jq Q.kind (g+1),O)):=λu x U=>(w.eX _ (g+1) u).G λq t=>c0.cD t u x U;obtain⟨z,H⟩:=Q;let d:∀{z},dq (.mk z H)=L->gd z=ak->H=[]->gE 2 (.mk z H) g ([],.mk z H,g):=λu E Q=>(c0.refl u (by rw[Q,un,E];rfl)).to2;show Bv (P:=λz=>dq (.mk z H)=L->a7 (gE 2 (.mk z H) g) (k2 (k+1) (.mk z H) g)) z (λa a u=>d u j (At (h' u).bF)) (λn u=>?_) (λa=>trivial) (λz l q o u=>xY l▸e u q o) u;split a7 _ (if n=16 then I ([],ah.mk (.this n) H,g) else eI _ _);split
 .show d u j (At (h' u).bF)
 .show e u j j
def Rp(w:ka k)(E:∀Y,Y+1=k->ka Y):∀Q g,dq Q=L->a7 (λq=>gE 2 Q g q/\bG Q.aM=ak) (ou (k+1) Q g):=λQ g u=>by
 let n:∀{q:ah}{g:Int},dq q=L->a7 (gE 2 q g) (nk k q g):=λ{q g} u=>by
  cases k
  .trivial
  .show(E _ j).cD _ _ u
 obtain⟨z,H⟩:=Q;revert u;show CM z H (λk i u=> #[(c0.refl u j).to2,j]) (λq u=>?_) (λe Y u=>?_) λa a Q a=>.nil (Q ..)
 .let J:=h' u;split a7 _ (if q.kind=16 then _ else _);split
  .show(n J.nb).G λe t=> #[(c0.dK (h:=.dB) J j (.one t)).look j,j]
  .trivial
 .let J:=h' u;show(n J.nb).G λe t=>(n J.xH).G λo s=> #[(c0.dK (h:=.c8) J j (.cons t (.one s))).look j,j]
theorem Rl(w:ka k):∀Q g,dq Q=L->a7 (gE 2 Q g) (nm (k+1) Q g):=λQ g u=>by
 obtain⟨z,H⟩:=Q;rcases l:bG z with _|_
 .rw[Cb l];show w.cD _ _ u
 .obtain rfl:=yx l;obtain⟨s,T,rfl⟩:=t5 (h' u).bF;show(w.taken _ _ (h' u).nb).G λe t=>(c0.dK (h' u) j (.one t.1)).to2
def Ke{E T i:Nat}(z:E<=m+i):max E T+3+0<=max m T+3+i:=ao (c_ (g9.mpr #[ao z (c_ (f7 ..) i),ao (f1 ..) (bv ..)]) 3) (ds (nC ..))
theorem G8(J:f' .bV aa):f' .bV (jS aa)/\∀q:eg,gE 3 (.mk .bV (jS aa)) c q->gE 3 (.mk .bV aa) c q:=by
 by_cases o:2<aa.length
 .obtain⟨y,T,rfl,e,q,rfl,x,d⟩:=CH o;let m:=vd J j;let a:=J.aa;rw[aeX] at a;let n:=RO q e (aw (aw a).1).1 (m e (.head _)) (aw (aw a).1).2 λQ V=>m Q (.tail _ (nB _ V));let U:=fold_max (f:=cy) (z:=2) (av:=3) (λl l=>j) PG (F:=gI) (λl l=>j) q e;let i:=fold_max (f:=cO) (z:=4) (av:=3) (λl l=>j) V3 (F:=iz) (λl l=>j) q e;rw[d];let h:(e::q++[T]).length-2=q.length:=by rw[cu];rfl
  let g:cy (.mk .bV [q.foldl en e,T])<=cy (.mk .bV (e::q++[T])):=by split max _ (max _ _)+3+3*([q.foldl en e,T].length-2)<=gI (e::q++[T])+3+3*((e::q++[T]).length-2);rw[h,PX];split max _ (max (cy T) 2)+3+0<=max (max (cy e) (gI q)) (max (cy T) 2)+3+3*q.length;show Ke U
  let v:cO (.mk .bV [q.foldl en e,T])<=cO (.mk .bV (e::q++[T])):=by split max _ (max _ _)+3+3*([q.foldl en e,T].length-2)<=iz (e::q++[T])+3+3*((e::q++[T]).length-2);rw[h,V5];split max _ (max (cO T) 4)+3+0<=max (max (cO e) (iz q)) (max (cO T) 4)+3+3*q.length;show Ke i
  let b:fa (.mk .bV [q.foldl en e,T])=fa (.mk .bV (e::q++[T])):=by split fa _+(fa T+0)+1+0=iC (e::q++[T])+1+((e::q++[T]).length-2);rw[h,abW,n.cJ];split _=fa e+iC q+(fa T+0)+1+q.length;omega
  let u:c2 (.mk .bV [q.foldl en e,T])=c2 (.mk .bV (e::q++[T])):=by split 0+(c2 _+fO [T])=0+fO (e::q++[T]);rw[Wf,n.na];rfl
  show#[#[J.aQ,j,j,cc j,j,.inr (bg.mpr #[n.f0,λQ V=>fC.mp V▸m T (mH _ (.head _))]),a9 n.ok (aw a).2],
   λD t=> #[#[t.n0,t.f0,(λk=>nomatch k),t.ok,ao t.ce g],(t.dE.up v).num u,t.le,b▸t.cJ]]
 .rw[show jS aa=aa from aS o];show#[J,λl t=>t]
theorem Ro(w:ka k):∀Q g,dq Q=L->a7 (gE 3 Q g) (cq (k+1) Q g):=λQ g u=>by
 show x5 (c0.refl u) λU A=>?_;obtain⟨z,H⟩:=Q;let J:=h' u;rcases s:ma z with _|_
 .rw[show cq (k+1) (.mk z H) g=_ from(aL U).trans (aL A)];clear u U A;revert J;show Ci s (λn J=>?_) (λn J=>?_) (λn J=>?_) (λi J=>?_) λJ=>?_
  .obtain⟨s,d,rfl⟩:=t5 J.bF;show w.jz _ _ _ J
  .let v:=J.bF;obtain _|⟨B,b⟩:=H
   .cases v
   let m:=vd J j;show(V7 b g (λQ V g=>w.eX Q g (p7 J.aa (.tail _ V))) λQ V=>m Q (.tail _ V)).G λf s=>(w.eX B _ J.nb).G λo t=>?_;let e:=(s.dE.up (ao (f1 (cO B) _) (B' (h:=.seq n) (aa:=B::b)))).app (t.dE.up (ao (f7 _ (iz b)) (B' (h:=.seq n) (aa:=B::b))));show#[#[t.n0,t.f0.trans (m B (.head _)),(λz=>nomatch z),t.ok,ao t.ce (ao (f7 _ (gI b)) (ao (bv ..) (bv ..)))],(e.iff (dt.join s.le t.le)).num ?_,fg s.le t.le,?_]
   .split fO b+c2 B=0+(c2 B+fO b);omega
   .have:=t.cJ;have:=s.cJ;split cG (_++_)+3<=4*(fa B+iC b+1+0);rw[mq];omega
  .obtain⟨s,d,a,cp,N,fz,rfl⟩:=Oy J.bF;show w.ch _ _ _ _ _ J
  .obtain⟨s,d,rfl⟩:=t5 J.bF;split a7 _ (if 2<=k then _ else _);split
   .show(w.eX _ g J.nb).G λf t=>c0.dK J j (.one t)
   .trivial
  .let T:=G8 (c:=g) J;show(w.parts _ _ g T.1 j).imp T.2
 .rw[u' s U A];show w.parts z H g J (Bl s)
def G9:ka 0:= #[λa a a=>trivial,λa a a a=>trivial,λa a a a a a=>trivial,λa a a a a=>trivial,λa a a=>trivial,λa a a=>trivial,λa a a=>trivial]
def G7(z:ka k)(f:∀Y,Y+1=k->ka Y):ka (k+1):= #[Ro z,Rj z,Rk z,Rn z,Rl z,Rm z,Rp z f]
theorem Ri:∀p,ka p/\ka (p+1):=by
 intro p
 induction p with
 |zero=>show#[G9,G7 G9 λY z=>nomatch z]
 |succ p w=>show#[(w).2,G7 (w).2 λY z=>tm z▸(w).1]
def abx(l:cq k e c=I (p,cn,aF))(u:dq e=L):c0 3 e c p cn aF:=((Ri k).1.eX e c u).of l
end
section
variable{q:List bc}
mutual
noncomputable def fy:ah->Nat
 |.mk h aa=>je aa+4+(if hB h then 4*(aa.length-2) else 0)
noncomputable def je:List ah->Nat
 |[]=>4
 |e::r=>max (fy e) (je r)
end
def yG:bP->List ah->Bool
 |.ref,[.mk (.aj _ _) []]=>L
 |.ref,[.mk .dB [r]]=> ↥(r.kind=16)
 |.ref,[.mk .c8 [_,_]]=>L
 |.ref,_=>ak
 |_,_=>L
mutual
noncomputable def lJ:ah->Bool
 |.mk h aa=>yG h aa&&mv aa
noncomputable def mv:List ah->Bool
 |[]=>L
 |e::r=>lJ e&&mv r
end
theorem RZ:∀H,4<=je H:=by
 intro q
 induction q with
 |nil=>show bq _
 |cons Q q w=>show ao (w) (f1 ..)
def ul:∀Q∈aa,fy Q<=je aa:=Jq (g:=fy) λa a=>j
def R0(E y:List ah):je (E++y)=max (je E) (je y):=xV (g:=fy) j (λa a=>j) y (RZ y) E
mutual
theorem xr:∀e:ah,ec e+4<=fy e
 |.mk h aa=>ao (c_ (H_ aa) 4) (bv ..)
theorem H_:∀aa:List ah,qG aa+1<=je aa
 |[]=>bq _
 |e::r=>afM (Nat.max_lt.mpr #[fF (afB ()) (ao (xr e) (f7 ..)),ao (H_ r) (f1 ..)])
end
def yu(s:mv aa=L)(z:e∈aa):lJ e=L:=xX (F:=mv) (λa a=>j) s e z
def Ze(E y:List ah):mv (E++y)=(mv E&&mv y):=Ao (g:=lJ) j (λa a=>j) y E
theorem UU:∀{H:List ah},H≠[]->jh H<H.length:=by
 intro q
 induction q with
 |nil=>show nofun
 |cons Q q w=>
  intro _;rw[jh];rcases m:dQ q with _|_
  .rw[aS kA];show lf _
  .rw[aL j];show afN (w λl=>by rw[l] at m;cases m)
abbrev fv{c:Type}(o:Option c):Prop:=o.isSome=L
theorem fv.G{d:Option aq}{f:aq->Option aC}(z:fv d)(s:∀E,fv (f E)):fv (eI d f):=by
 cases d
 .cases z
 .show s _
theorem Jz{t s:ah->Int->Option eg}:∀(U:Nat)(H:List ah)(g:Int),U<H.length->(∀Q∈H,∀g,fv (t Q g))->(∀Q∈H,∀g,fv (s Q g))->fv (nn s t U H g)
 |0,Q::q,g,_,n,a=>(n Q (.head _) g).G λb=>j
 |U+1,Q::q,g,v,n,a=>(a Q (.head _) g).G λe=>(Jz U q _ (Nat.lt_of_succ_lt_succ v) (λQ V=>n Q (.tail _ V)) λQ V=>a Q (.tail _ V)).G λb=>j
theorem V8{t:ah->Int->Option eg}:∀(b:List ah)(g:Int),(∀Q∈b,∀g,fv (t Q g))->fv (qU t b g):=by
 intro q
 induction q with
 |nil=>intro g _;show j
 |cons Q q w=>intro g n;show(n Q (.head _) g).G λe=>(w _ λQ V=>n Q (.tail _ V)).G λa=>j
def Ends(k:Nat):Prop:=∀e,dq e=L->lJ e=L->fy e<=k->∀c,fv (cq k e c)
theorem Ik(U:Ends k){Q:ah}(u:dq Q=L)(q:lJ Q=L)(x:bG Q.aM=ak)(b:fy Q<=k)(g:Int):fv (k2 (k+1) Q g):=by
 let e:fv (eI (cq k Q (g+1)) λ(v,J,O)=>I (v++[bc.cD (g+1) J],jq Q.kind (g+1),O)):=(U Q u q b _).G λa=>j;obtain⟨z,H⟩:=Q;let x:bG z=ak:=x;rcases l:qH z with _|_
 .clear u q b U;cases Ij l with
  |const n B=>rfl
  |this n=>
   split fv (if n=16 then _ else eI _ _);by_cases o:n=16
   .rw[aL o];rfl
   .rw[aS o];show e
  |ref=>show cY x.symm
 .rw[xY l];show e
inductive ww:bP->List ah->Prop
 |aj (aQ i:Int):ww (.aj aQ i) []
 |dB (r:ah) (h:r.kind=16):ww .dB [r]
 |c8 (a i:ah):ww .c8 [a,i]
theorem ZJ(z:bP)(H:List ah):yG .ref [.mk z H]=L->ww z H:=by
 cases z with
 |aj n i=>
  obtain _|_:=H
  .show λa=>.aj _ _
  .show nofun
 |dB=>
  obtain _|⟨q,_|_⟩:=H
  .show nofun
  .show λl=>.dB q (bS l)
  .show nofun
 |c8=>
  obtain _|⟨q,_|⟨i,_|_⟩⟩:=H
  .show nofun
  .show nofun
  .show λa=>.c8 q i
  .show nofun
 |_=>show nofun
theorem ab2(U:∀Y,Y<=k->Ends Y){Q:ah}(u:dq Q=L)(q:lJ Q=L)(r:yG .ref [Q]=L)(b:fy Q+4<=k)(g:Int):fv (ou (k+1) Q g):=by
 obtain⟨z,H⟩:=Q;let J:=h' u;let n:∀(e:ah),e∈H->bG e.aM=ak->∀g,fv (nk k e g):=λe M x g=>by let O:fy e+8<=k:=ao (c_ (c_ (ul e M) 4) 4) (ao (c_ (bv ..) 4) b);obtain⟨Y,rfl⟩:∃Y,k=Y+2:= #[k-2,(ie (ao () (ao (fE ..) O))).symm];show Ik (U Y (bv ..)) (p7 J.aa M) (yu (aw q).2 M) x (ao (bv _ 6) (el (el O))) g
 let m:=vd J;clear u q b J;cases ZJ z H r with
 |aj=>rfl
 |dB E l=>split fv (if E.kind=16 then _ else _);rw[aL l];show(n _ (.head _) (m j _ (.head _)) g).G λa=>j
 |c8=>show(n _ (.head _) (m j _ (.head _)) g).G λa=>(n _ (.tail _ (.head _)) (m j _ (.tail _ (.head _))) _).G λa=>j
theorem Tt(U:∀Y,Y<=k->Ends Y)(u:dq e=L)(q:lJ e=L)(b:fy e<=k)(g:Int):fv (nm (k+2) e g):=by
 obtain⟨z,H⟩:=e;rcases l:bG z with _|_
 .rw[Cb l];show Ik (U k (bq _)) u q l b g
 .obtain rfl:=yx l;obtain⟨p,b4,rfl⟩:=t5 (h' u).bF;show(ab2 U (h' u).nb (aw (aw q).2).1 (aw q).1 (ao (c_ (ul _ (.head _)) 4) b) g).G λa=>j
def J9(U:∀Y,Y<=k+2->Ends Y)(J:f' h aa)(q:mv aa=L)(u:aa≠[])(b:je aa<=k)(g:Int):fv (gw (k+3) h aa g):=(Jz _ _ _ (UU u) (λQ V g=>U (k+2) (bq _) Q (p7 J.aa V) (yu q V) (ao (ul Q V) (ao b (bv ..))) g) λQ V g=>Tt (λY s=>U Y (ao s (bv ..))) (p7 J.aa V) (yu q V) (ao (ul Q V) b) g).G λa=>j
def Hu(u:ah):4<=fy u:=ao (fE ..) (xr u)
theorem RR:∀(q:List ah)(e:ah),lJ e=L->mv q=L->lJ (q.foldl en e)=L:=by
 intro q
 induction q with
 |nil=>intro e u _;show u
 |cons o q w=>intro e u a;show w (en e o) (a9 u (a9 (aw a).1 j)) (aw a).2
structure i_(k:Nat)(h:bP)(aa:List ah):Prop where
 X:f' h aa
 C0:mv aa=L
 E:∀av,av<=k+3->Ends av
 hf:fy (.mk h aa)<=k+4
 Bo:ct (.mk h aa)=L
 H8:ec (.mk h aa)<=k+3
theorem i_.xx(w:i_ k h aa):je aa<=k:=vS (ao (bv ..) w.hf)
theorem i_.S(w:i_ k h aa)(f:k<=av)(o:av<=k+3)(V:e∈aa)(g:Int):fv (cq av e g):=w.E av o e (p7 w.X.aa V) (yu w.C0 V) (ao (ul e V) (ao w.xx f)) g
theorem i_.l1(w:i_ k h aa)(V:e∈aa)(g:Int):fv (cq (k+2) e g):=w.S (bv ..) (j3 _) V g
theorem i_.Af(w:i_ k h aa)(V:e∈aa)(g:Int):fv (cq (k+3) e g):=w.S (bv ..) (bq _) V g
theorem i_.go(w:i_ k h aa){o:Option eg}(D:fv o)(Q:(if ec (ah.mk h aa)<=k+3 then if ct (ah.mk h aa) then o else I ([],ah.mk h aa,c) else au)=cq (k+4) (.mk h aa) c):fv (cq (k+4) (.mk h aa) c):=by rw[<-Q,aL w.H8,aL w.Bo];show D
theorem i_.parts(w:i_ k h aa)(D:gd h=ak):fv (gw (k+3) h aa c):=J9 (λY s=>w.E Y (lW s)) w.X w.C0 (λQ=>by let A:=w.Bo;rw[Q,un,D] at A;cases A) w.xx c
def wf(k:Nat)(g:Int)(z:bP)(H:List ah):Prop:=i_ k z H->fv (cq (k+4) (.mk z H) g)
theorem i_.gen(w:i_ k h aa)(s:ma h=L)(D:gd h=ak):fv (cq (k+4) (.mk h aa) c):=by rw[u' s w.H8 w.Bo];show w.parts D
theorem QU(w:i_ k .bV aa):fv (gw (k+3) .bV (jS aa) c):=by
 by_cases o:2<aa.length
 .let a:=(G8 (c:=c) w.X).1;obtain⟨y,T,rfl,e,r,rfl,x,d⟩:=CH o;let N:=w.C0;let b:=w.hf;rw[d] at a|-;rw[Ze] at N;show J9 (λY s=>w.E Y (lW s)) a (a9 (RR r e (aw (aw N).1).1 (aw (aw N).1).2) (aw N).2) (λg=>nomatch g) ?_ c;let i:=fold_max (f:=fy) (z:=4) (av:=4) (λh h=>j) Hu (F:=je) (λh h=>j) r e;replace b:je (e::r++[T])+4+4*((e::r++[T]).length-2)<=k+4:=b;rw[show(e::r++[T]).length-2=r.length by rw[cu];rfl,R0] at b;replace b:max (max (fy e) (je r)) (max (fy T) 4)+4+4*r.length<=k+4:=b;split max _ (max (fy T) 4)<=k;rw[nC] at b;let b:=vS b;show g9.mpr #[ao i (ao (c_ (f7 ..) _) b),ao (f1 ..) (ao (bv ..) b)]
 .rw[show jS aa=aa from aS o];show w.parts j
theorem QV(z:bP)(H:List ah):wf k c z H:=by
 cases z with
 |cb n=>show λw=>il (P:=wf k c (.cb n)) H w.X.bF (λE w=>w.go ((w.l1 (.head _) _).G λa=>j) j) w
 |seq n=>
  obtain _|⟨B,b⟩:=H
  .show λw=>cY w.X.bF
  .show λw=>w.go ((V8 _ _ λQ V c=>w.Af (.tail _ V) c).G λa=>(w.Af (.head _) _).G λa=>j) j
 |bO n=>show λw=>r1 (P:=wf k c (.bO n)) H w.X.bF (λE y x w=>w.go ((w.l1 (.head _) _).G λe=>(by
   by_cases l:(ct y||ct x)=L
   .rw[aL l];show(w.l1 (.tail _ (.head _)) _).G λa=>(w.l1 (.tail _ (.tail _ (.head _))) _).G λa=>j
   .rw[aS l];rfl:fv (if(ct y||ct x)=L then _ else _))) j) w
 |dJ i=>show λw=>il (P:=wf k c (.dJ i)) H w.X.bF (λE w=>w.go (o:=if 2<=k+3 then _ else _) (by
   rw[aL (fE 2 (k+1))];show(w.Af (.head _) c).G λa=>j) j) w
 |bV=>show λw=>w.go (QU w) j
 |_=>show λw=>w.gen j j
theorem GU(p:Nat)(w:∀Y,Y<p->Ends Y):Ends p:=by
 intro Q u q b g;obtain⟨z,H⟩:=Q;obtain⟨p,rfl⟩:∃Y,p=Y+4:= #[p-4,(ie (ao (Hu _) b)).symm];let U:ec (.mk z H)<=p+3:=ao (vS (ao (xr _) b)) (bv ..);rcases A:ct (ah.mk z H) with _|_
 .split fv (if ec (.mk z H)<=p+3 then if ct (ah.mk z H) then _ else I ([],ah.mk z H,g) else au);rw[aL U,A];rfl
 show QV z H #[h' u,(aw q).2,λY s=>w Y (afC s),b,A,U]
theorem QT:∀p Y,Y<=p->Ends Y:=by
 intro p
 induction p with
 |zero=>intro Y z;show GU Y λi J=>cH (fF J z) (afH i)
 |succ p w=>intro Y z;show GU Y λi J=>w i (afx (fF J z))
def abA(u:dq e=L)(q:lJ e=L)(b:fy e<=k)(g:Int):∃v J p,cq k e g=I (v,J,p):=by obtain⟨⟨v,J,p⟩,z⟩:=ze.mp (QT k k (bq _) e u q b g);show#[v,J,p,z]
end
mutual
noncomputable def dg:Nat->V->Bool
 |0,_=>ak
 |n+1,v=>match v with
  |.none=>L
  |.int _=>L
  |.str s=>gp s
  |.J vs=>hw n vs
  |.bool _=>ak
  |.ref _=>ak
  |.C _=>ak
noncomputable def hw:Nat->List V->Bool
 |_,[]=>L
 |n,v::r=>dg n v&&hw n r
end
theorem Gu(B:V):dg 0 B=ak:=by cases B<;>rfl
def Qk:hw n (v::r)=(dg n v&&hw n r):=j
def AP:hw n []=L:=j
def AN:dg (n+1) ↑i=L:=j
def Gs:dg (n+1) .none=L:=j
def wZ{P:Prop}(z:dg 0 v=L):P:=cH ((Gu v).symm.trans z) kA
theorem Qj:∀{U:Nat}{O:List V},(∀B∈O,dg U B=L)->hw U O=L:=by
 intro U;intro q
 induction q with
 |nil=>intro _;show AP
 |cons B q w=>intro z;show a9 (z B (.head _)) (w λB x=>z B (.tail _ x))
def Gv(z:hw n vs=L):∀B∈vs,dg n B=L:=xX (F:=hw n) (λe q=>Qk) z
mutual
theorem r9:∀{n m:Nat}{v:V},dg n v=L->n<=m->dg m v=L
 |0,m,v,h,_=>wZ h
 |n+1,0,v,h,a=>cH a (tl _)
 |n+1,m+1,v,h,a=>by
  cases v with
  |J vs=>show AO (vs:=vs) h (el a)
  |str s=>show h
  |int i=>show AN
  |none=>show Gs
  |_=>show cY h
theorem AO:∀{n m:Nat}{vs:List V},hw n vs=L->n<=m->hw m vs=L
 |n,m,[],_,_=>AP
 |n,m,v::r,h,a=>by let h:=aw h;show a9 (r9 h.1 a) (AO h.2 a)
end
def yX(U:Nat)(O:List V):fc D (U+1) (.J O)=(gO (fc D U) O).map .tuple:=j
theorem LN(t:V->Option f2)(B:V)(q:List V):gO t (B::q)=match t B,gO t q with
 |some x,I i=>I (x::i)
 |_,_=>au:=j
def hE:Nat->V->f2
 |0,_=>.none
 |n+1,v=>match v with
  |.none=>.none
  | ↑i=> ↑i
  |.str s=>.str s
  |.J vs=>.tuple (vs.map (hE n))
  |_=>.none
mutual
theorem rj:∀{n:Nat}{v:V},dg n v=L->∀m,n<=m->fc D m v=I (hE n v)
 |0,v,h,m,a=>wZ h
 |n+1,v,h,0,a=>cH a (tl _)
 |n+1,v,h,m+1,a=>by
  cases v with
  |J vs=>rw[yX,DH (vs:=vs) h m (el a)];rfl
  |str s=>split (match gp s with|true=>I (MR s)|false=>au)=_;rw[show gp s=L from h];rfl
  |int i=>rfl
  |none=>rfl
  |_=>show cY h
theorem DH:∀{n:Nat}{vs:List V},hw n vs=L->∀m,n<=m->gO (fc D m) vs=I (vs.map (hE n))
 |n,[],h,m,a=>rfl
 |n,v::r,h,m,a=>by let h:=aw h;rw[LN,rj h.1 m a,DH h.2 m a];rfl
end
def uD:V->Bool
 | ↑i=>i==30
 |_=>ak
theorem Pz(z:dg n v=L)(a:n<=60):bh C .Eq v ↑30=M.N (uD v):=by
 funext p;let f:hx p v ↑30=I (uD v):=by
  unfold hx;rw[rj z 60 a];let d:fc p 60 ↑30=I ↑30:=j;obtain _|n:=n
  .show wZ z
  cases v with
  |_=>rfl
 split M.opt (hx p v ↑30) p=_;rw[f];rfl
theorem PA(z:hw n (v::r)=L)(a:n+1<=60):bh C .Eq (.J (v::r)) (.J [])=M.N ak:=by
 funext p;let f:hx p (.J (v::r)) (.J [])=I ak:=by unfold hx;rw[rj (n:=n+1) (v:=.J (v::r)) z 60 a];rfl
 split M.opt (hx p (.J (v::r)) (.J [])) p=_;rw[f];rfl
abbrev xQ(P:V)(g:Int):ap:=[("part",P),("count",↑g)]
abbrev B1(P:V)(g:Int)(a:V):ap:=[("part",P),("count",↑g),("inner",a)]
theorem aeh(B:V)(q:List V):ag C (k+1) gR [.J (B::q)]=(bh C .Eq (.J (B::q)) (.J [])).G λl=>match l with
 |true=>M.N ↑0
 |false=>(bh C .Eq B ↑30).G λ
  |true=>cf (a5 C k gR [2] 46) (B::q) (xQ (.J (B::q)) 1) (az C k gR [2] 47)
  |false=>cf (a5 C k gR [2] 46) (B::q) (xQ (.J (B::q)) 0) (az C k gR [2] 47):=by
 ac_rfl
def aef(P B:V)(g:Int)(c:ap->M V):a5 C k gR [2] 46 B (xQ P g) c=(ag C k gR [B]).G λU=>(bQ C .Add ↑g U).G λD=>c [("part",P),("count",D),("inner",B)]:= #[]
def aeg(P B a:V)(g:Int)(c:ap->M V):a5 C k gR [2] 46 B (B1 P g a) c=(ag C k gR [B]).G λU=>(bQ C .Add ↑g U).G λD=>c [("part",P),("count",D),("inner",B)]:= #[]
def pF:List V->Nat
 |[]=>0
 |v::_=>if uD v then 1 else 0
mutual
noncomputable def jO:V->Nat
 |.J vs=>pF vs+iA vs
 |_=>0
noncomputable def iA:List V->Nat
 |[]=>0
 |v::r=>jO v+iA r
end
theorem aeK{P:V}(T:List V):∀(g:Nat)(Y:ap),(∀B∈T,bX (ag C k gR [B]) ↑(jO B))->(Y=xQ P g/\T≠[]\/∃a,Y=B1 P g a)->bX (cf (a5 C k gR [2] 46) T Y (az C k gR [2] 47)) ↑((g+iA T:Nat):Int):=by
 induction T with
 |nil=>
  intro g Y _ z;obtain⟨_,z⟩|⟨a,rfl⟩:=z
  .cases z j
  .show bX.N _
 |cons B q w=>
  intro g Y y z;let f:cf (a5 C k gR [2] 46) (B::q) Y (az C k gR [2] 47)=(ag C k gR [B]).G λU=>(bQ C .Add ↑g U).G λD=>cf (a5 C k gR [2] 46) q [("part",P),("count",D),("inner",B)] (az C k gR [2] 47):=by
   obtain⟨rfl,_⟩|⟨a,rfl⟩:=z
   .show aef ..
   .show aeg ..
  rw[f,show g+iA (B::q)=g+jO B+iA q from(fD ..).symm];show(y B (.head _)).G (w (g+jO B) (B1 P ((g+jO B:Nat):Int) B) (λB x=>y B (.tail _ x)) (.inr #[B,j]))
theorem DP(U:Nat):∀(B:V),dg U B=L->U<=60->∀p,U<=p->bX (ag C p gR [B]) ↑(jO B):=by
 induction U with
 |zero=>show λB z d d d=>wZ z
 |succ U w=>
  intro B z v p O;obtain⟨p,rfl⟩:∃Y,p=Y+1:= #[p-1,(ie (ao (fE ..) O)).symm];cases B with
  |none=>show bX.N _
  |int i=>show bX.N _
  |str D=>show bX.N _
  |J c=>
   obtain _|⟨B,q⟩:=c
   .show bX.N _
   let x:dg U B=L:=Gv z B (.head _);let g:=λb:Nat=>aeK (C:=C) (k:=p) (P:=.J (B::q)) (B::q) b _ (λa f=>w a (Gv z a f) (hH v) p (el O)) (.inl #[j,nofun]);rw[aeh,PA z v,a_,Pz x (hH v),a_];split bX _ ↑((((if uD B then 1 else 0)+iA (B::q):Nat)):Int);obtain _|_:=uD B
   .show g 0
   show g 1
  |_=>show cY z
theorem J6{A:Str}(z:oy A=L):gp A=L:=by obtain rfl|rfl|rfl|rfl|rfl:=CA z<;>rfl'
theorem H'(H:List ah):pF (bi H)=0:=by
 obtain _|⟨Q,q⟩:=H
 .rfl
 split pF (ax Q::bi q)=0;rw[ir Q];rfl
def Tp(g:Int)(q:List V):pF (↑g::q)=if g==30 then 1 else 0:=j
structure tR(v:V):Prop where
 w:jO v=0
 d:∀n,dg (n+3) v=L
def CJ{D:Str}(z:gp D=L):tR (.str D):= #[j,λa=>z]
def CI{d U:Int}(z:(d==30)=ak):tR (pN d U):= #[(aN (λy:Bool=>(if y then 1 else 0)+0) z:(if d==30 then 1 else 0)+0=0),λa=>j]
theorem J_(u:sr h=L):tR (yj h):=by
 cases h with
 |const _ B=>cases B with
  |int _=>show#[j,λa=>j]
  |none=>show#[j,λa=>j]
  |_=>cases u
 |bin _=>show CJ (J6 u)
 |lift _ _=>show CJ (J6 u)
 |ix=>show CJ #[]
 |call _ _=>show CI j
 |hg _=>show CI j
 |new _ _=>show CI (beq_eq_false_iff_ne.mpr (ahf (bS u)))
 |_=>show#[j,λa=>j]
theorem aa4(u:tR (yj h))(D:jx h r aa):iA r=iA (bi aa):=by
 induction D with
 |nil=>rfl
 |i _ _ _ _ a=>show(em _).trans a
 |n _ _ _ a=>show(em _).trans a
 |p _ _ _ a=>show(aN (· +_) u.w).trans ((em _).trans a)
 |k Q _ _ _ a=>show aN (jO (ax Q)+ ·) a
 |t _ aa _ a=>show(aN (pF (bi aa)+iA (bi aa)+ ·) a).trans ((aN (· +_) (H' aa)).trans (em _))
 |s Q aa=>show(aN (· +iA (bi aa)+jO (ax Q)) (H' aa)).trans ((aN (· +_) (em _)).trans (j1 ..))
theorem aa3(u:tR (yj h))(D:jx h r aa):(∀Q∈aa,dg (n+2) (ax Q)=L)->hw (n+3) r=L:=by
 let a:∀{Q:ah},dg (n+2) (ax Q)=L->dg (n+3) (ax Q)=L:=λh=>r9 h (j3 _);let b:∀{aa:List ah},(∀Q∈aa,dg (n+2) (ax Q)=L)->hw (n+2) (bi aa)=L:=λ{aa} h=>by rw[w4];show Qj λB x=>by obtain⟨Q,V,rfl⟩:=tj.mp x;show h Q V
 induction D with
 |nil=>show λc=>j
 |i _ _ _ _ w=>show w
 |n _ _ _ w=>show w
 |p _ _ _ w=>show λy=>a9 (u.d n) (w y)
 |k Q _ _ _ w=>show λy=>a9 (a (y Q (.head _))) (w λe M=>y e (.tail _ M))
 |t _ aa _ w=>show λy=>a9 (b y) (w nofun)
 |s Q aa=>show λy=>a9 (b λe M=>y e (.tail _ M)) (a9 (a (y Q (.head _))) j)
def Qh(J:f' h aa)(O:∀Q∈aa,dg (n+2) (ax Q)=L):dg (n+4) (ax (.mk h aa))=L:=by obtain⟨q,Q,D⟩:=w3 h aa J.bF;split hw (n+3) (iq h (bi aa))=L;rw[Q];show(aa3 (J_ J.aM) D O:hw (n+3) q=L)
mutual
theorem t9:∀e:ah,dq e=L->dg (cy e) (ax e)=L
 |.mk h aa,x=>by let X:=h' x;let w:=Gr aa X.aa;obtain⟨n,v⟩:∃n,gI aa=n+2:= #[gI aa-2,(ie (Gl aa)).symm];show r9 (Qh X (n:=n) λe V=>r9 (w e V) (ao (wX.2 e V) (ds v))) ?_;split _<=gI aa+3+(if hB h then 3*(aa.length-2) else 0);omega
theorem Gr:∀aa:List ah,i5 aa=L->∀e∈aa,dg (cy e) (ax e)=L
 |[],_=>λa h=>nomatch h
 |y::r,x=>bg.mpr #[t9 y (aw x).1,Gr r (aw x).2]
end
def Wj(J:f' h aa)(O:iA (bi aa)=fO aa):jO (ax (.mk h aa))=c2 (.mk h aa):=by obtain⟨q,Q,D⟩:=w3 h aa J.bF;split pF (iq h (bi aa))+iA (iq h (bi aa))=(if gd h then 1 else 0)+fO aa;rw[Q,Tp,Gh];show aN _ ((em _).trans ((em _).trans ((aa4 (J_ J.aM) D).trans O)))
mutual
theorem x0:∀e:ah,dq e=L->jO (ax e)=c2 e
 |.mk h aa,x=>Wj (h' x) (JC aa (h' x).aa)
theorem JC:∀aa:List ah,i5 aa=L->iA (bi aa)=fO aa
 |[],_=>rfl
 |y::r,x=>(aN (· +_) (x0 y (aw x).1)).trans (aN (c2 y+ ·) (JC r (aw x).2))
end
def AU(u:e9 e=L):dq e=L:=(dj.mp u).1
def JB(y:Bool)(T:List V)(g:Int)(z:(g==30)=ak):jO (mk y (.J (↑g::T)))=iA T:=by
 let Q:jO (.J (↑g::T))=iA T:=by split (if g==30 then 1 else 0)+(0+iA T)=iA T;rw[z,em];show em _
 obtain _|_:=y
 .show Q
 show(em _).trans ((em _).trans Q)
def Qi(z:dg n v=L):dg (n+1) (mk b v)=L:=by
 obtain _|_:=b
 .show r9 z (j3 _)
 obtain _|n:=n
 .cases kA ((Gu v).symm.trans z)
 show a9 z j
theorem To(v:List bc):pF (ca v)=0:=by
 obtain _|⟨D,q⟩:=v
 .rfl
 obtain⟨g,T,z,_⟩:=GQ D;split pF (fJ D::ca q)=0;rw[z];rfl
structure f_(n:Nat)(v:V)(w:Nat):Prop where
 d:dg n v=L
 w:jO v=w
structure gV(n:Nat)(vs:List V)(w:Nat):Prop where
 d:hw n vs=L
 w:iA vs=w
theorem f_.ex(u:e9 e=L):f_ (cy e) (ax e) (c2 e):= #[t9 e (AU u),x0 e (AU u)]
theorem f_.up{A:Nat}(u:f_ n v A)(z:n<=m):f_ m v A:= #[r9 u.d z,u.w]
theorem gV.nil:gV n [] 0:= #[j,j]
theorem gV.cons{A u:Nat}(a:f_ n v A)(e:gV n vs u):gV n (v::vs) (A+u):= #[a9 a.d e.d,(aN (· +_) a.w).trans (aN (A+ ·) e.w)]
theorem gV.int{A:Nat}(e:gV (n+1) vs A):gV (n+1) (↑i::vs) A:= #[e.d,(em _).trans e.w]
theorem gV.J{A:Nat}(z:(c==30)=ak)(e:gV (n+1) vs A):f_ (n+2) (.J (↑c::vs)) A:= #[e.d,(JB ak vs c z).trans e.w]
theorem f_.bn{A:Nat}(z:(c==30)=ak)(e:gV (n+1) vs A):f_ (n+3) (Mine.mk b (.J (↑c::vs))) A:= #[Qi (gV.J z e).d,(JB b vs c z).trans e.w]
theorem f_.one{A:Nat}(u:f_ n v A)(e:gV n vs 0):gV n (v::vs) A:=gV.cons u e
def AG(Q:ah):∃Y,cy Q=Y+1:= #[cy Q-1,(ie (ao () (pv Q))).symm]
def GO{A:Nat}(e:gV n (ca p) A):f_ (n+3) (gY p) A:=f_.bn j (f_.one (v:=.J (ca p)) #[e.d,(aN (· +_) (To p)).trans ((em _).trans e.w)] (.int .nil))
mutual
theorem Df:∀s:bc,pZ s=L->f_ (kt s) (fJ s) (va s)
 |.expr e,x=>by obtain⟨av,c⟩:=AG e;let h:=f_.ex x;split f_ (cy e+1) _ _;rw[c] at h|-;show gV.J j (h.one .nil)
 |.cD i e,x=>by obtain⟨av,c⟩:=AG e;let h:=f_.ex x;split f_ (cy e+1) _ _;rw[c] at h|-;show gV.J j ↑(h.one .nil)
 |.cb i aQ e,x=>by obtain⟨av,c⟩:=AG e;let h:=f_.ex x;split f_ (cy e+2) _ _;rw[c] at h|-;show f_.bn (b:=L) j ↑(h.one .nil)
 |.bO t y n,x=>by let x:=aw (show(e9 t&&hF y&&hF n)=L from x);let a1:=aw x.1;let a:max (cy t) (max (dY y) (dY n)+4)=max (cy t) (max (dY y) (dY n)+4)-1+1:=(ie (ao () (ao (pv t) (f7 ..)))).symm;let up:∀m,m<=max (dY y) (dY n)->m+3<=max (cy t) (max (dY y) (dY n)+4):=λm h=>ao (i6 h ()) (f1 ..);let b6:=gV.cons ((f_.ex a1.1).up (f7 ..)) (gV.cons ((GO (yN y a1.2)).up (up _ (f7 ..))) (((GO (yN n x.2)).up (up _ (f1 ..))).one .nil));split f_ (max (cy t) (max (dY y) (dY n)+4)+2) (mk (fM y||fM n) (.J [↑4,ax t,gY y,gY n])) (c2 t+jN y+jN n);rw[a] at b6|-;rw[fD (c2 t)];show f_.bn j b6
theorem yN:∀p:List bc,hF p=L->gV (dY p) (ca p) (jN p)
 |[],_=>.nil
 |s::r,x=>gV.cons ((Df s (aw x).1).up (f7 ..)) #[AO (yN r (aw x).2).d (f1 ..),(yN r (aw x).2).w]
end
def abp(D:bc)(u:pZ D=L):dg (kt D) (fJ D)=L/\jO (fJ D)=va D:= #[(Df D u).d,(Df D u).w]
abbrev on(s:V)(x:Nat)(m:Bool)(z:Int)(H:List V):ap:=[("s",s),("slots",⇑x),("marked",.bool m),("holds",↑z),("kids",.J H)]
abbrev xR(s:V)(x:Nat)(m:Bool)(z:Int)(H:List V)(a r:V):ap:=(y5 s ⇑x (.bool m) ↑z (.J H) a r)
def O5(Q:V):ag C (k+1) fe [.J [↑1,Q],⇑d]=M.N ↑0:= #[]
def O_(U Q:V):ag C (k+1) fe [.J [↑94,U,Q],⇑d]=(dd C ⇑d U ↑1).G λa=>M.N ↑0:=by ac_rfl
def O'(U Q:V):ag C (k+1) fe [.J [↑93,.J [↑95,U,Q]],⇑d]=(dd C ⇑d U ↑1).G λa=>M.N ↑1:=by ac_rfl
def O6(H:List V):ag C (k+1) fe [.J [↑3,.J H,↑0],⇑d]=az C k fe [5] 44 (on (.J [↑3,.J H,↑0]) d ak 0 H):=by ac_rfl
def O7(H:List V):ag C (k+1) fe [.J [↑93,.J [↑3,.J H,↑0]],⇑d]=az C k fe [5] 44 (on (.J [↑3,.J H,↑0]) d L 0 H):=by ac_rfl
def O8(r e:V)(a:List V):ag C (k+1) fe [.J [↑4,r,e,.J a],⇑d]=az C k fe [5] 44 (on (.J [↑4,r,e,.J a]) d ak 0 [e,.J a]):=by ac_rfl
def O9(r e:V)(a:List V):ag C (k+1) fe [.J [↑93,.J [↑4,r,e,.J a]],⇑d]=az C k fe [5] 44 (on (.J [↑4,r,e,.J a]) d L 0 [e,.J a]):=by ac_rfl
def wN(D:V)(m:Bool)(H:List V):az C k fe [5] 44 (on D d m 0 H)=cf (a5 C k fe [6] 42) H (on D d m 0 H) (az C k fe [6] 43):= #[]
theorem Pa(D B:V)(m:Bool)(z:Int)(H:List V)(c:ap->M V):a5 C k fe [6] 42 B (on D d m z H) c=(ag C k fe [B,⇑d]).G λr=>(bh C .Lt r ↑0).G λ
 |true=>M.N ↑(-1)
 |false=>(bQ C .Add ↑z r).G λz=>c (y5 D ⇑d (.bool m) z (.J H) B r):= #[]
theorem Pb(D B a A:V)(m:Bool)(z:Int)(H:List V)(c:ap->M V):a5 C k fe [6] 42 B (xR D d m z H a A) c=(ag C k fe [B,⇑d]).G λr=>(bh C .Lt r ↑0).G λ
 |true=>M.N ↑(-1)
 |false=>(bQ C .Add ↑z r).G λz=>c (y5 D ⇑d (.bool m) z (.J H) B r):= #[]
def t8(C:List O)(m:Bool)(z:Int):M V:=(bh C .Gt ↑z ↑0).G λb=>(bh C .Eq (.bool m) (.bool b)).G λ
 |true=>M.N ↑z
 |false=>M.N ↑(-1)
def Pc(D:V)(m:Bool)(z:Int)(H:List V):az C k fe [6] 43 (on D d m z H)=t8 C m z:= #[]
def Pd(D a A:V)(m:Bool)(z:Int)(H:List V):az C k fe [6] 43 (xR D d m z H a A)=t8 C m z:= #[]
theorem Ql(z:Nat): ↥((0:Int)<(z:Int))= ↥(0<z):=by
 obtain _|U:=z
 .rfl
 show(cW (ahe.mpr (lf U))).trans (cW (lf U)).symm
def P7(z:Nat):t8 C ↥(0<z) z=M.N ↑z:=by
 let s:∀y:Bool,bh C .Eq (.bool y) (.bool y)=M.N L:=λy=>by cases y<;>(funext p;rfl')
 unfold t8;rw[show bh C .Gt ↑z ↑0=M.N ↥((0:Int)<(z:Int)) from j,a_,Ql,s,a_]
def iU(es:List (Int×V)):O:=match es with
 |[]=>.aX []
 |es=>.id es
def g7:List Int->List (Int×V)->List (Int×V)
 |[],es=>es
 |n::r,es=>g7 r (d' n ↑1 es)
theorem Ko:∀(E b:List Int)(a:List (Int×V)),g7 (E++b) a=g7 b (g7 E a):=by
 intro q
 induction q with
 |nil=>intro b a;show j
 |cons U q w=>intro b a;show w b _
theorem Yb{U:Int}(b:List (Int×V)):iU (d' U v b)=.id (d' U v b):=by
 obtain _|⟨c,q⟩:=b
 .rfl
 obtain⟨e,a⟩:=c;have:d' U v ((e,a)::q)=match↥(U=e) with|true=>(e,v)::q|false=>(e,a)::d' U v q:=j
 rw[this];cases↥(U=e)<;>rfl
theorem Ll{U:Int}(z:D[d]?=I (iU es))(c:es.length<=4000000):dd C ⇑d ↑U v D=.ok bL (D.set d (iU (d' U v es))):=by
 rw[Yb];obtain _|⟨a,q⟩:=es
 .unfold dd M.get;dsimp only;rw[z];rfl
 show C9 (es:=a::q) z c
theorem Lm{a:O}(z:D[d]?=I a):D.set d a=D:=by
 show aho ?_;intro i;by_cases Q:i=d
 .subst Q;rw[iF (c5.mp z).1,z]
 .rw[gh Q]
def aa0(E y:O):(D.set d E).set d y=D.set d y:=by simp
theorem CQ(T:List Int):∀b:List (Int×V),(g7 T b).length<=b.length+T.length:=by
 induction T with
 |nil=>show λb=>bq _
 |cons U q w=>show λb=>ao (w _) (ao (c_ (Kl (i:=U) (v:=V.int 1) b) _) (ds (by rw[oW,fD,j1 1])))
def tE(C:List O)(k:Nat)(B:V)(a:Nat)(n:List Int):Prop:=∀(d:Nat)(es:List (Int×V))(D:aG),D[d]?=I (iU es)->es.length+n.length<=1000000->ag C k fe [B,⇑d] D=.ok ↑a (D.set d (iU (g7 n es)))
inductive tF(C:List O)(k:Nat):List V->Nat->List Int->Prop
 |nil:tF C k [] 0 []
 |cons (v:V) (a:Nat) (ai:List Int) (vs:List V) (b:Nat) (l:List Int) (h:tE C k v a ai) (g:tF C k vs b l):tF C k (v::vs) (a+b) (ai++l)
def Nt(C:List O)(k x:Nat)(s:V)(m:Bool)(H:List V)(a:List V)(b:Nat)(l:List Int):Prop:=∀(h:Nat)(Y:ap)(es:List (Int×V))(D:aG),(Y=on s x m h H\/∃u w,Y=xR s x m h H u w)->D[x]?=I (iU es)->es.length+l.length<=1000000->m= ↥(0<h+b)->
  cf (a5 C k fe [6] 42) a Y (az C k fe [6] 43) D=.ok ↑((h+b:Nat):Int) (D.set x (iU (g7 l es)))
theorem Go{s:V}{m:Bool}{aa:List V}{y:Nat}{l:List Int}(T:tF C k vs y l):Nt C k d s m aa vs y l:=by
 induction T with
 |nil=>
  intro z Y b p c e _ i;subst i;let Q:az C k fe [6] 43 Y=t8 C ↥(0<z) z:=by
   obtain rfl|⟨a,A,rfl⟩:=c
   .show Pc ..
   .show Pd ..
  show(congrFun (Q.trans (P7 z)) p).trans (aN (bA.ok (V.int z)) (Lm e).symm)
 |cons B E n vs y l T h w=>
  intro z Y b p c e g i;let f:cf (a5 C k fe [6] 42) (B::vs) Y (az C k fe [6] 43)=(ag C k fe [B,⇑d]).G λr=>(bh C .Lt r ↑0).G λ
   |true=>M.N ↑(-1)
   |false=>(bQ C .Add ↑z r).G λz=>cf (a5 C k fe [6] 42) vs (y5 s ⇑d (.bool m) z (.J aa) B r) (az C k fe [6] 43):=by
   obtain rfl|⟨a,A,rfl⟩:=c
   .show Pa ..
   .show Pb ..
  rw[cu,<-fD] at g;let H:=w (z+E) (xR s d m ((z+E:Nat):Int) aa B ↑E) (g7 n b) (p.set d (iU (g7 n b))) (.inr #[_,_,j]) (iF (c5.mp e).1) (ao (c_ (CQ n b) _) g) (by rw[i,fD]);rw[aa0,<-Ko,fD] at H;rw[f];show(a8 (T d b p e (ao (bv ..) g))).trans ?_;rw[show bh C .Lt ↑(E:Int) ↑0=M.N ↥((E:Int)<0) from j,a_,f8 (rI.mpr (fG E))];show H
theorem AQ(E y:Nat):(↥(0<E)|| ↥(0<y))= ↥(0<E+y):=by
 obtain _|E:=E
 .rw[em];rfl
 show(cW (fF (lf E) (bv ..))).symm
mutual
theorem Th:∀s:bc,xq s= ↥(0<l3 s)
 |.expr _=>rfl
 |.cD _ _=>rfl
 |.cb _ _ _=>rfl
 |.bO _ y n=>by split (fM y||fM n)= ↥(0<hu y+hu n);rw[sq y,sq n];show AQ ..
theorem sq:∀p:List bc,fM p= ↥(0<hu p)
 |[]=>rfl
 |s::r=>by split (xq s||fM r)= ↥(0<l3 s+hu r);rw[Th s,sq r];show AQ ..
end
def mQ(C:List O)(s:bc):Prop:=∀k,kt s<=k->tE C k (fJ s) (l3 s) (lL s)
theorem P6(y:∀D∈p,mQ C D)(O:dY p<=k):tF C k (ca p) (hu p) (fA p):=by
 induction p with
 |nil=>show .nil
 |cons D q w=>show .cons _ _ _ _ _ _ (y D (.head _) k (ao (f7 ..) O)) (w (λu T=>y u (.tail _ T)) (ao (f1 ..) O))
def K3(y:∀D∈p,mQ C D)(O:dY p<=k):tE C (k+1) (gY p) (hu p) (fA p):=λx b a G c=>by
 let g:=Go (C:=C) (k:=k) (d:=x) (s:=.J [↑3,.J (ca p),↑0]) (m:=fM p) (aa:=ca p) (P6 y O) 0 _ b a (.inl j) G c (by rw[em];show sq p);rw[em] at g;show p_ (congrFun ?_ a) g;unfold gY;obtain _|_:=fM p
 .show(O6 (ca p)).trans (wN ..)
 show(O7 (ca p)).trans (wN ..)
def P4(Q:ah):mQ C (.expr Q):=λp O=>by
 obtain _|p:=p
 .cases(tl _) O
 show λx b a G c=>(congrFun (O5 (ax Q)) a).trans (aN (bA.ok (V.int 0)) (Lm G).symm)
def P5(i:Int)(Q:ah):mQ C (.cD i Q):=λp O=>by
 obtain _|p:=p
 .cases(tl _) O
 show λx b c G a=>(congrFun (O_ ↑i (ax Q)) c).trans (a8 (Ll G (ao (bv ..) (ao a ()))))
def P1(i n:Int)(r:ah):mQ C (.cb i n r):=λp O=>by
 obtain _|p:=p
 .cases(tl _) O
 show λx b c G a=>(congrFun (O' ↑i (ax r)) c).trans (a8 (Ll G (ao (bv ..) (ao a ()))))
theorem P2{r:ah}{e U:List bc}(M:∀D∈e,mQ C D)(v:∀D∈U,mQ C D):mQ C (.bO r e U):=λp O=>by
 let O:max (cy r) (max (dY e) (dY U)+4)+2<=p:=O;obtain⟨p,rfl⟩:∃Y,p=Y+2:= #[p-2,(ie (ao (fE ..) O)).symm];let i:=g9.mp (ao (bv ..) (ao (f1 ..) (el (el O))));intro x b f G a;let a:b.length+(fA e++fA U).length<=1000000:=a;let g:=Go (C:=C) (k:=p+1) (d:=x) (s:=.J [↑4,ax r,gY e,gY U]) (m:=fM e||fM U) (aa:=[gY e,gY U]) (.cons _ _ _ _ _ _ (K3 M i.1) (.cons _ _ _ _ _ _ (K3 v i.2) .nil)) 0 _ b f (.inl j) G (by rw[dS];show a) (by
  rw[em,sq e,sq U];show AQ ..)
 rw[em,dS] at g;show p_ (congrFun ?_ f) g;obtain⟨T,c⟩:=GP U;split ag C (p+2) fe [mk (fM e||fM U) (.J [↑4,ax r,gY e,gY U]),⇑x]=_;rw[c];obtain _|_:=fM e||fM U
 .show(O8 ..).trans (wN ..)
 show(O9 ..).trans (wN ..)
mutual
theorem Gp:∀(s:bc),mQ C s
 |.expr e=>P4 e
 |.cD i e=>P5 i e
 |.cb i aQ t=>P1 i aQ t
 |.bO t y n=>P2 (AL y) (AL n)
theorem AL:∀(p:List bc),∀s∈p,mQ C s
 |[]=>λa h=>nomatch h
 |y::r=>bg.mpr #[Gp y,AL r]
end
def P8(D:bc)(p:Nat)(O:kt D<=p):tE C p (fJ D) (l3 D) (lL D):=Gp D p O
abbrev qN(Q f q:V)(o:Nat)(m:V):ap:=[("g",⇑2),("sp",⇑11),("e",Q),("first",f),(ho,⇑o),("rest",q),("many",m)]
abbrev sC(Q f q:V)(o:Nat)(m:V)(x:Nat):ap:=[("g",⇑2),("sp",⇑11),("e",Q),("first",f),(ho,⇑o),("rest",q),("many",m),("slots",⇑x)]
abbrev mh(Q f q:V)(o:Nat)(m:V)(x:Nat)(s r:V):ap:=[("g",⇑2),("sp",⇑11),("e",Q),("first",f),(ho,⇑o),("rest",q),("many",m),("slots",⇑x),("s",s),("told",r)]
abbrev jJ(Q f q:V)(o:Nat)(m:V)(x:Nat)(s r U:V):ap:=[("g",⇑2),("sp",⇑11),("e",Q),("first",f),(ho,⇑o),("rest",q),("many",m),("slots",⇑x),("s",s),("told",r),("n",U)]
abbrev cnt(C:List O):M V:=mY C ⇑11 "count"
def ZV(Q:V):ag C (k+1) ck [⇑2,⇑11,Q]=cg C k ck [0] 49 [("g",⇑2),("sp",⇑11),("e",Q)] (az C k ck [0] 49):=by ac_rfl
def ZW(Y:ap):az C k ck [0] 49 Y=cg C k ck [1] 48 Y (az C k ck [1] 48):= #[]
def ZX(Y:ap):az C k ck [1] 48 Y=cg C k ck [2] 47 Y (az C k ck [2] 47):= #[]
def ZY(Y:ap):az C k ck [2] 47 Y=cg C k ck [3] 46 Y (az C k ck [3] 46):= #[]
def Z1(Q:V)(c:ap->M V):cg C k ck [0] 49 [("g",⇑2),("sp",⇑11),("e",Q)] c=(cnt C).G λt=>c [("g",⇑2),("sp",⇑11),("e",Q),("first",t)]:= #[]
def Z2(Q t:V)(c:ap->M V):cg C k ck [1] 48 [("g",⇑2),("sp",⇑11),("e",Q),("first",t)] c=(M.new (.list [])).G λd=>c [("g",⇑2),("sp",⇑11),("e",Q),("first",t),(ho,⇑d)]:= #[]
def Z3(Q t:V)(d:Nat)(c:ap->M V):cg C k ck [2] 47 [("g",⇑2),("sp",⇑11),("e",Q),("first",t),(ho,⇑d)] c=(ag C k dL [⇑11,Q,⇑d]).G λq=>c [("g",⇑2),("sp",⇑11),("e",Q),("first",t),(ho,⇑d),("rest",q)]:= #[]
def Z4(Q t q:V)(d:Nat)(c:ap->M V):cg C k ck [3] 46 [("g",⇑2),("sp",⇑11),("e",Q),("first",t),(ho,⇑d),("rest",q)] c=(ag C k gR [Q]).G λm=>c (qN Q t q d m):= #[]
def Z5(Y:ap):az C k ck [3] 46 Y=cg C k ck [4] 45 Y (az C k ck [4] 45):= #[]
theorem La(Q t q m:V)(d:Nat)(c:ap->M V):cg C k ck [4] 45 (qN Q t q d m) c=aV C m ↑0 ((bh C .Eq q Q).G λy=>match y with
 |true=>(M.new (.list [])).G λo=>(bh C .Eq ⇑d ⇑o).G λy=>match y with
  |true=>(cnt C).G λg=>(bh C .Eq g t).G λy=>M.N (.bool y)
  |false=>M.N (.bool y)
 |false=>M.N (.bool y)) (c (qN Q t q d m)):= #[]
def Z7(Y:ap):az C k ck [4] 45 Y=cg C k ck [5] 44 Y (az C k ck [5] 44):= #[]
def Z8(Q t q m:V)(d:Nat)(c:ap->M V):cg C k ck [5] 44 (qN Q t q d m) c=(M.new (.aX [])).G λx=>c (sC Q t q d m x):= #[]
def Z9(Y:ap):az C k ck [5] 44 Y=cg C k ck [6] 43 Y (az C k ck [6] 43):= #[]
def Z_(Q t q m:V)(d x:Nat)(c:ap->M V):cg C k ck [6] 43 (sC Q t q d m x) c=hZ (a5 C k ck [6] 42) (sC Q t q d m x) c ⇑d:= #[]
def yI(C:List O)(k x:Nat)(m B:V)(h:V->V->M V):M V:=(ag C k fe [B,⇑x]).G λt=>(bh C .Lt t ↑0).G λq=>match q with
 |true=>M.N (.bool ak)
 |false=>(ag C k gR [B]).G λn=>(bh C .Gt n ↑0).G λ
  |true=>M.N (.bool ak)
  |false=>(bQ C .Sub m t).G λdR=>h dR t
def Z'(Q t q m B:V)(d x:Nat)(c:ap->M V):a5 C k ck [6] 42 B (sC Q t q d m x) c=yI C k x m B λw r=>c (mh Q t q d w x B r):= #[]
def aaa(Q t q m B D r:V)(d x:Nat)(c:ap->M V):a5 C k ck [6] 42 B (mh Q t q d m x D r) c=yI C k x m B λw r=>c (mh Q t q d w x B r):= #[]
def aab(Y:ap):az C k ck [6] 43 Y=cg C k ck [7] 42 Y (az C k ck [7] 42):= #[]
def aac(Q t q m D r:V)(d x:Nat)(c:ap->M V):cg C k ck [7] 42 (mh Q t q d m x D r) c=hZ (a5 C k ck [7] 41) (mh Q t q d m x D r) c ⇑x:= #[]
def C3(C:List O)(f B:V)(h:M V):M V:=(bh C .LtE B f).G λq=>match q with
 |true=>M.N (.bool ak)
 |false=>(cnt C).G λc=>(bh C .Gt B c).G λ
  |true=>M.N (.bool ak)
  |false=>h
def aad(Q t q m B D r:V)(d x:Nat)(c:ap->M V):a5 C k ck [7] 41 B (mh Q t q d m x D r) c=C3 C t B (c (jJ Q t q d m x D r B)):= #[]
def aae(Q t q m B D r a:V)(d x:Nat)(c:ap->M V):a5 C k ck [7] 41 B (jJ Q t q d m x D r a) c=C3 C t B (c (jJ Q t q d m x D r B)):= #[]
def aaf(Y:ap):az C k ck [7] 42 Y=cg C k ck [8] 41 Y (az C k ck [8] 41):= #[]
theorem aag(Q t q m D r a:V)(d x:Nat)(c:ap->M V):cg C k ck [8] 41 (jJ Q t q d m x D r a) c=(bh C .NotEq m ↑0).G λl=>match l with
 |true=>M.N (.bool ak)
 |false=>(e_ ⇑x).G λT=>(cnt C).G λg=>(bQ C .Sub g t).G λu=>(bh C .NotEq T u).G λl=>match l with
  |true=>M.N (.bool ak)
  |false=>(ag C k gR [q]).G λU=>(bh C .Gt U ↑0).G λl=>match l with
   |true=>M.N (.bool ak)
   |false=>(aJ C q ↑1).G λE=>(aJ C Q ↑1).G λy=>(bh C .NotEq E y).G λ
    |true=>M.N (.bool ak)
    |false=>c (jJ Q t q d m x D r a):= #[]
def aah(Y:ap):az C k ck [8] 41 Y=cg C k ck [9] 40 Y (az C k ck [9] 40):= #[]
def aai(Q t q m D r a:V)(d x:Nat)(c:ap->M V):cg C k ck [9] 40 (jJ Q t q d m x D r a) c=(ag C k ek [⇑2,⇑d,q]).G λb=>c (jJ Q t q d m x D r a++[(("got":Str),b)]):= #[]
theorem aaj(Q t q m D r a b:V)(d x:Nat):az C k ck [9] 40 (jJ Q t q d m x D r a++[(("got":Str),b)])=(aJ C b ↑5).G λu=>(bh C .Eq u ↑0).G λy=>match y with
 |true=>(M.new (.list [])).G λo=>(ag C k ek [⇑2,⇑o,Q]).G λc=>(bh C .Eq b c).G λy=>M.N (.bool y)
 |false=>M.N (.bool y):= #[]
section
variable{x:cX}
mutual
theorem ub:∀(n:Nat)(v:V),gB (hE n v) (hE n v)=L
 |0,v=>rfl
 |n+1,v=>by
  cases v with
  |none=>rfl
  |int i=>split (i==i)=L;rw[fh]
  |str s=>split (s==s)=L;rw[fh]
  |J vs=>show AY n vs
  |_=>rfl
theorem AY:∀(n:Nat)(vs:List V),mN (vs.map (hE n)) (vs.map (hE n))=L
 |n,[]=>rfl
 |n,v::r=>by split (gB (hE n v) (hE n v)&&mN (r.map (hE n)) (r.map (hE n)))=L;rw[ub n v,AY n r];rfl
end
theorem AX(t:aq->f2)(z:∀E,gB (t E) (t E)=L):∀T:List aq,mN (T.map t) (T.map t)=L:=by
 intro q
 induction q with
 |nil=>show j
 |cons E q w=>split (gB (t E) (t E)&&mN (q.map t) (q.map t))=L;rw[z E,w];rfl
theorem PF(z:dg n v=L)(a:n<=60):bh C .Eq v v=M.N L:=by
 funext p;let f:hx p v v=I L:=by unfold hx;rw[rj z 60 a];show aN I (ub n v)
 split M.opt (hx p v v) p=_;rw[f];rfl
theorem ace{t:V->Option f2}{s:aq->V}{h:aq->f2}:∀{T:List aq},(∀E∈T,t (s E)=I (h E))->gO t (T.map s)=I (T.map h):=by
 intro q
 induction q with
 |nil=>intro _;show j
 |cons E q w=>intro y;split (match t (s E),gO t (q.map s) with|some x,I i=>I (x::i)|_,_=>au)=_;rw[y E (.head _),w λE h=>y E (.tail _ h)];rfl
def vx:kK->Bool
 |.jz t=>dg 10 t
 |.cl fT _ H=>gp fT&&hw 10 H
def s0:kK->f2
 |.jz t=>.tuple [.str "await",hE 10 t]
 |.cl fT n H=>.tuple [.str fT,↑n,.list (H.map (hE 10))]
structure zO(u:V)(w:W):Prop where
 u:dg 10 u=L
 bp:∀r∈w.bp,vx r=L
 ee:dg 10 w.ee=L
def p3(z:D[n]?=I (.list vs)):fc D (m+1) ⇑n=(gO (fc D m) vs).map .list:=by split (match D[n]? with|some (.list vs)=>(gO (fc D m) vs).map agk|_=>au)=_;rw[z]
def DG{a:Str}(z:gp a=L):fc D (m+1) (.str a)=I (.str a):=by split (match gp a with|true=>I (MR a)|false=>au)=_;rw[z]
def rh:cr->f2
 |.c v=>.list [.str "c",↑v]
 |.a xs=>.list (.str "a"::xs.map .int)
 |.n v=>.list [.str "n",↑v]
 |.s x y=>.list [.str "s",.tuple [↑x,↑y]]
 |.f x y=>.list [.str "f",↑x,↑y]
def eL{t:V->Option f2}{d:f2}{eD:List f2}(z:t v=I d)(s:gO t r=I eD):gO t (v::r)=I (d::eD):=by rw[LN,z,s]
theorem ab'(r:cr):(gO (fc D (m+3)) r.cV).map agk=I (rh r):=by
 let b:∀u:Str,gp u=L->fc D (m+3) (.str u)=I (.str u):=λu z=>DG z;cases r with
 |c B=>rw[show(cr.c B).cV=[.str "c",↑B] from j,eL (b _ #[]) (eL (d:= ↑B) j (eD:=[]) j)];rfl
 |n B=>rw[show(cr.n B).cV=[.str "n",↑B] from j,eL (b _ #[]) (eL (d:= ↑B) j (eD:=[]) j)];rfl
 |s v l=>rw[show(cr.s v l).cV=[.str "s",cU v l] from j,eL (b _ #[]) (eL (d:=.tuple [↑v,↑l]) j (eD:=[]) j)];rfl
 |f v l=>rw[show(cr.f v l).cV=[.str "f",↑v,↑l] from j,eL (b _ #[]) (eL (d:= ↑v) j (eL (d:= ↑l) j (eD:=[]) j))];rfl
 |a e=>rw[show(cr.a e).cV=.str "a"::e.map .int from j,eL (b _ #[]) (ace (h:=Ee) λE g=>j)];rfl
theorem Vo{U:eB}{y:Nat}{A:W}(h:aE U y an A D)(G:∀q∈A.bp,vx q=L)(m:Nat)(k:20<=m):fc D m ⇑y=I (.list (A.bp.map s0)):=by
 obtain⟨t,f,o,M⟩:=h.logAt;obtain⟨m,rfl⟩:∃Y,m=Y+20:=sb k;rw[p3 f];let C:∀(T:List kK)(q:List V),q.length=T.length->(∀(i:Nat)(a:kK)(B:V),T[i]?=I a->q[i]?=I B->nV y (an++U.cI) D a B)->(∀u∈T,vx u=L)->gO (fc D (m+19)) q=I (T.map s0):=by
  intro T
  induction T with
  |nil=>intro q x _ _;rw[vO.mp x];rfl
  |cons u T w=>
   intro q x b g;obtain _|⟨B,q⟩:=q
   .cases x
   show eL ?_ (w q (by simpa using x) (λi a B f o=>b (i+1) a B (by rw[rL];show f) (by rw[rL];show o)) λe s=>g e (.tail _ s));let c:=b 0 u B j j;let O:=g u (.head _);cases u with
   |jz r=>obtain rfl:B=.J [.str "await",r]:=c;rw[yX,eL (DG #[]) (eL (rj (n:=10) O (m+18) ()) (eD:=[]) j)];rfl
   |cl l U H=>
    obtain⟨v,rfl,p,_⟩:=c;let O:(gp l&&hw 10 H)=L:=O;rw[dj] at O;let Q:fc D (m+18) ⇑v=I (.list (H.map (hE 10))):=by rw[p3 p,DH O.2 (m+17) ()];rfl
    rw[yX,eL (DG O.1) (eL (d:= ↑U) j (eL Q (eD:=[]) j))];rfl
 rw[C A.bp t o M.2 G];rfl
theorem acc{U:eB}{c:Nat}{A:W}(b:aE U c an A D)(a:Nat)(e:20<=a):fc D a ⇑(c+18)=I (.list (.none::A.a2.map rh)):=by
 obtain⟨a,rfl⟩:∃Y,a=Y+20:=sb e;rw[p3 b.DD];obtain⟨B,N,H⟩:=b.rc;let C:∀(T:List cr)(q:List Nat),q.length=T.length->(∀(i v:Nat)(r:cr),q[i]?=I v->T[i]?=I r->D[v]?=I (O.list r.cV))->gO (fc D (a+19)) (q.map .ref)=I (T.map rh):=by
  intro T
  induction T with
  |nil=>intro q x _;rw[vO.mp x];rfl
  |cons u T w=>
   intro q x y;obtain _|⟨v,q⟩:=q
   .cases x
   show eL ?_ (w q (by simpa using x) λi v r f o=>y (i+1) v r (by rw[rL];show f) (by rw[rL];show o));rw[p3 (y 0 v u j j)];show ab' u (m:=a+15)
 rw[eL (d:=.none) j (C A.a2 an H.nl H.di)];rfl
def xO(A:W):f2:=.list [.list [↑0],.list [↑A.b4],.list [↑A.cp],.list [.tuple [↑A.fz.1,↑A.fz.2]],.list [↑A.dV],.list [↑A.er],.list [.tuple [↑A.dW.1,↑A.dW.2]],.list [↑A.ed],.list [hE 10 A.ee]]
theorem U9{c:eB}{y:Nat}{A:W}(d:aE c y an A D)(E:dg 10 A.ee=L)(m:Nat)(i:20<=m):fc D m ⇑(y+11)=I (xO A):=by
 obtain⟨m,rfl⟩:∃av,m=av+20:=sb i;rw[p3 d.I2];let a:∀{av:Nat}{B:V}{m4:f2},D[y+av]?=I (.list [B])->fc D (m+18) B=I m4->fc D (m+19) ⇑(y+av)=I (.list [m4]):=λf b=>by rw[p3 f,eL b (eD:=[]) j];rfl
 let s:=λ(av:Nat)(z:av<14)(b:1<av)(e:O) U=>d.at (av:=av) z b (o:=e) U;rw[eL (a (av:=2) (m4:= ↑0) (s 2 () () _ λg g=>j) j) (eL (a (av:=3) (m4:= ↑A.b4) (s 3 () () _ λg g=>j) j) (eL (a (av:=4) (m4:= ↑A.cp) (s 4 () () _ λg g=>j) j) (eL (a (av:=5) (m4:=.tuple [↑A.fz.1,↑A.fz.2]) (s 5 () () _ λg g=>j) j) (eL (a (av:=6) (m4:= ↑A.dV) (s 6 () () _ λg g=>j) j) (eL (a (av:=7) (m4:= ↑A.er) (s 7 () () _ λg g=>j) j) (eL (a (av:=8) (m4:=.tuple [↑A.dW.1,↑A.dW.2]) (s 8 () () _ λg g=>j) j) (eL (a (av:=9) (m4:= ↑A.ed) (s 9 () () _ λg g=>j) j) (eL (a (av:=10) (s 10 () () _ λg g=>j) (rj E (m+18) ())) (eD:=[]) j))))))))];rfl
theorem ab_(r:cr):gB (rh r) (rh r)=L:=by
 cases r with
 |c B=>split (("c":Str)=="c"&&((B==B)&&L))=L;rw[fh,fh];rfl
 |n B=>split (("n":Str)=="n"&&((B==B)&&L))=L;rw[fh,fh];rfl
 |s u e=>split (("s":Str)=="s"&&(((u==u)&&((e==e)&&L))&&L))=L;rw[fh,fh,fh];rfl
 |f u e=>split (("f":Str)=="f"&&((u==u)&&((e==e)&&L)))=L;rw[fh,fh,fh];rfl
 |a b=>split (("a":Str)=="a"&&mN (b.map Ee) (b.map Ee))=L;rw[fh,AX Ee (λi=>(by split (i==i)=L;rw[fh]))];rfl
theorem ZG(q:kK):gB (s0 q) (s0 q)=L:=by
 cases q with
 |jz r=>split (("await":Str)=="await"&&(gB (hE 10 r) (hE 10 r)&&L))=L;rw[fh,ub];rfl
 |cl l U H=>split (l==l&&((U==U)&&(mN (H.map (hE 10)) (H.map (hE 10))&&L)))=L;rw[fh,fh,AY];rfl
theorem U8(A:W):gB (xO A) (xO A)=L:=by
 let Q:∀i:Int,gB ↑i ↑i=L:=λi=>by split (i==i)=L;rw[fh]
 let T:∀x:f2,gB x x=L->gB (.list [x]) (.list [x])=L:=λx z=>by split (gB x x&&L)=L;rw[z];rfl
 let v:∀u e:Int,gB (.tuple [↑u,↑e]) (.tuple [↑u,↑e])=L:=λu e=>by split (gB ↑u ↑u&&(gB ↑e ↑e&&L))=L;rw[Q,Q];rfl
 let g:∀(x:f2)(q:List f2),gB x x=L->mN q q=L->mN (x::q) (x::q)=L:=λx q z s=>by split (gB x x&&mN q q)=L;rw[z,s];rfl
 show g _ _ (T _ (Q _)) (g _ _ (T _ (Q _)) (g _ _ (T _ (Q _)) (g _ _ (T _ (v _ _)) (g _ _ (T _ (Q _)) (g _ _ (T _ (Q _)) (g _ _ (T _ (v _ _)) (g _ _ (T _ (Q _)) (g _ _ (T _ (ub _ _)) j))))))))
def sp(b:Nat)(a:V)(A:W):V:=.J [⇑b,a,⇑(b+11),⇑(b+18),cU A.this.1 A.this.2,↑0]
def um(a:V)(A:W):f2:=.tuple [.list (A.bp.map s0),hE 10 a,xO A,.list (.none::A.a2.map rh),.tuple [↑A.this.1,↑A.this.2],↑0]
theorem HY{U:eB}{y:Nat}{A:W}(a:aE U y an A D)(t:zO u A):fc D 60 (sp y u A)=I (um u A):=by split fc D (59+1) (.J _)=_;rw[yX,eL (Vo a t.bp 59 ()) (eL (rj t.u 59 ()) (eL (U9 a t.ee 59 ()) (eL (acc a 59 ()) (eL (d:=.tuple [↑A.this.1,↑A.this.2]) j (eL (d:= ↑0) j (eD:=[]) j)))))];rfl
theorem S'(a:V)(A:W):gB (um a A) (um a A)=L:=by
 let Q:∀i:Int,gB ↑i ↑i=L:=λi=>by split (i==i)=L;rw[fh]
 let g:∀(x:f2)(q:List f2),gB x x=L->mN q q=L->mN (x::q) (x::q)=L:=λx q z s=>by split (gB x x&&mN q q)=L;rw[z,s];rfl
 let v:∀u e:Int,gB (.tuple [↑u,↑e]) (.tuple [↑u,↑e])=L:=λu e=>by split (gB ↑u ↑u&&(gB ↑e ↑e&&L))=L;rw[Q,Q];rfl
 show g _ _ (AX s0 ZG A.bp) (g _ _ (ub _ _) (g _ _ (U8 A) (g _ _ (g _ _ j (AX rh ab_ A.a2)) (g _ _ (v _ _) (g _ _ (Q _) j)))))
def S_(a:V)(A:W)(z:List (Int×(Int×V))):um a (A.dZ z)=um a A:=j
theorem aE.stays{U:eB}{y:Nat}{A:W}(k:aE U y an A D)(c:D.length<=dI.length)(z:∀i,i<D.length->dI[i]?=D[i]?):aE U y an A dI:=by
 obtain⟨⟨B,N,H,j,b⟩,h,e,a,p⟩:=k;let T:∀{i:Nat}{d:O},D[i]?=I d->dI[i]?=I d:=λJ=>by rw[z _ (c5.mp J).1];show J
 show#[#[B,N,#[λY s=>by rw[z _ (H.lt s)];show H.jF Y s,?_,H.m7,H.nl,λi q r f o=>T (H.di i q r f o),λq x=> #[(H.jn q x).1,by have:=(H.jn q x).2;omega],H.iX,H.qr],j.aD λq l x l=>z q x,b],h,e,a,λY s=> #[(p Y s).1,by have:=(p Y s).2.1;omega,(p Y s).2.2]];obtain⟨E,i,Q⟩:=H.g;show#[E,i,T Q]
theorem dT.stays(w:dT x a i c D)(b:D.length<=dI.length)(z:∀Y,Y<D.length->dI[Y]?=D[Y]?):dT x a i c dI:=by
 let A:=w.len;obtain⟨H,rfl⟩:=w;show#[dI.drop 13,?_];let Q:dI.take 13=cB x a i c:=by
  show aho ?_;intro Y;by_cases s:Y<13
  .rw[List.getElem?_take_of_lt s,z Y (),eP (by rw[r5];show s)]
  .rw[y6.mpr (by rw[vP];omega),y6.mpr (by rw[r5];omega)]
 rw[<-Q,List.take_append_drop]
end
section
variable{o:Nat}{x:cX}
def Kk{U:Int}{e:Int×V}{q:List (Int×V)}(z:U=e.1):d' U v (e::q)=(e.1,v)::q:=mt (cW z)
def Kn{U:Int}{e:Int×V}{q:List (Int×V)}(z:¬U=e.1):d' U v (e::q)=e::d' U v q:=Ca (f8 z)
theorem Km{U m:Int}(b:List (Int×V)):m∈(d' U v b).map (·.1)↔m=U\/m∈b.map (·.1):=by
 induction b with
 |nil=>show gm
 |cons e q w=>
  by_cases z:U=e.1
  .rw[Kk z];show#[.inr,λl=>l.elim (λQ=>gm.mpr (.inl (Q.trans z))) id]
  .rw[Kn z];show gm.trans ((or_congr_right w).trans (or_left_comm.trans (or_congr_right gm.symm)))
theorem Yc{U:Int}(b:List (Int×V))(s:(b.map (·.1)).Nodup):((d' U v b).map (·.1)).Nodup:=by
 induction b with
 |nil=>show j0.mpr #[nofun,s]
 |cons e q w=>
  by_cases z:U=e.1
  .rw[Kk z];show s
  .let s:=j0.mp s;rw[Kn z];show j0.mpr #[λi=>((Km q).mp i).elim (λQ=>z Q.symm) s.1,w s.2]
theorem Yi{m:Int}(T:List Int):∀b:List (Int×V),m∈(g7 T b).map (·.1)↔m∈T\/m∈b.map (·.1):=by
 induction T with
 |nil=>show λb=> #[.inr,λl=>l.elim nofun id]
 |cons U q w=>show λb=>(w _).trans ((or_congr_right (Km b)).trans (or_left_comm.trans (or_assoc.symm.trans (or_congr_left gm.symm))))
theorem Yj(T:List Int):∀b:List (Int×V),(b.map (·.1)).Nodup->((g7 T b).map (·.1)).Nodup:=by
 induction T with
 |nil=>show λa z=>z
 |cons U q w=>show λb z=>w _ (Yc b z)
def up:Int->Nat->List Int
 |_,0=>[]
 |c,n+1=>(c+1)::up (c+1) n
theorem aed(U:Nat):∀g:Int,(up g U).length=U/\(up g U).Nodup/\∀m,m∈up g U↔g<m/\m<=g+U:=by
 induction U with
 |zero=>show λg=> #[j,.nil,λm=> #[nofun,λz=>cH (v9 z.1 z.2) (λl=>Ey _ (Int.add_zero g▸l))]]
 |succ U w=>intro g;let z:=w (g+1);show#[aN (· +1) z.1,j0.mpr #[λl=>Ey _ ((z.2.2 _).mp l).1,z.2.1],λm=>gm.trans ((or_congr_right (z.2.2 m)).trans ?_)];rw[show g+1+(U:Int)=g+((U+1:Nat):Int) from(agf g 1 U).trans (aN (g+ ·) (agj 1 U))];show#[λl=>l.elim (λQ=>Q▸#[mO g,agl (agC (fG U)) g]) λl=> #[zB (mO g) l.1,l.2],λl=>(Int.lt_or_eq_of_le (show g+1<=m from l.1)).elim (λo=>.inr #[o,l.2]) λo=>.inl o.symm]
theorem abw{T:List Int}(v:T.Nodup)(b:c<=aF)(z:∀U,U∈T↔c<U/\U<=aF):(T.length:Int)=aF-c:=by show rC (Int.le.dest b) λU Q=>?_;subst Q;let a:=aed U c;rw[((List.perm_ext_iff_of_nodup v a.2.1).mpr λm=>(z m).trans (a.2.2 m).symm).length_eq,a.1];show(Int.sub_eq_iff_eq_add'.mpr j).symm
theorem wT(w:dT x a i c D):cnt C D=.ok ↑c D:=by obtain⟨H,rfl⟩:=w;rfl'
theorem FX(w:dT x a i c D):∃a i,D[2]?=I (sk a i):=by obtain⟨H,rfl⟩:=w;show#[a,i,#[]]
structure Good(e:ah):Prop where
 HN:eR e
 jU:Db e
 x:e9 e=L
 r:lJ e=L
 fy:fy e<=43
 cO:cO e<=42
 cJ:4*fa e<=100000
 run:∃u w,qz (eval e hb)=I (u,w)/\zO u w
def H1(a:List O):bh a .Gt ↑((0:Nat):Int) ↑0=M.N ak:=by funext p;rfl'
def aaw{a:Nat}{n:List Int}{h:V->V->M V}{u:List O}(T:tE C k v a n)(b:D[d]?=I (iU es))(c:es.length+n.length<=1000000)(W:ag C k gR [v] (D.set d (iU (g7 n es)))=.ok ↑((0:Nat):Int) (D.set d (iU (g7 n es))++u))(i:a<=m):
  yI C k d ↑m v h D=h ↑((m-a:Nat):Int) ↑a (D.set d (iU (g7 n es))++u):=by
 show(a8 (T d es D b c)).trans ?_;rw[show bh C .Lt ↑(a:Int) ↑0=M.N ↥((a:Int)<0) from j,a_,f8 (rI.mpr (fG a))];show(a8 W).trans ?_;rw[H1,a_];show congrFun (?_:(bQ C .Sub ↑m ↑a).G (λw=>h w ↑a)=_) _;rw[sub_int,a_,Int.ofNat_sub i]
structure NA(k o d:Nat)(x:cX)(a i c:Int)(a6:List V)(q:List bc)(pre:List V)(m:Nat)(es:List (Int×V))(D:aG):Prop where
 kv:hF q=L
 ne:jN q=0
 nb:dY q<=k
 xH:dY q<=60
 qF:pre++ca q=a6
 h4:D[o]?=I (.list a6)
 aM:D[d]?=I (iU es)
 kU:es.length+(fA q).length<=1000000
 B:dT x a i c D
 hm:hu q<=m
inductive Fb(o d:Nat)(x:cX)(a i c:Int)(e f r:V)(a6:List V)(K:ap->M V)(m:Nat)(es:List (Int×V))(D:aG)(R:bA V):Prop
 |mk (g:aG) (s t:V) (h:R=K (mh e f r o ↑(m:Int) d s t) g) (B:dT x a i c g) (h4:g[o]?=I (.list a6)) (mb:g[d]?=I (iU es)) (b:D.length<=g.length) (j:∀y,y<d->g[y]?=D[y]?):Fb o d x a i c e f r a6 K m es D R
def wp(C:List O)(k o b:Nat)(x:cX)(a i g:Int)(Q f q:V)(r:List V)(h:ap->M V)(l:List bc):Prop:=
 ∀c m es Y D,NA k o b x a i g r l c m es D->(Y=sC Q f q o ↑m b/\l≠[]\/∃s t,Y=mh Q f q o ↑m b s t)->
  Fb o b x a i g Q f q r h (m-hu l) (g7 (fA l) es) D (h5 (a5 C k ck [6] 42) o (ca l).length c.length Y h D)
section
variable{e f r:V}{K:ap->M V}{q:List bc}{s:bc}
theorem VM:wp C k o d x a i c e f r a6 K []:=λl m b Y p y g=>by
 obtain⟨_,z⟩|⟨D,h,rfl⟩:=g
 .cases z j
 .show#[p,D,h,BZ y.h4 (ds (aN y7 (y.qF.symm.trans (dS _)))),y.B,y.h4,y.aM,bq _,λn n=>j]
theorem VL(h:o≠d)(v:13<=d)(w:wp C k o d x a i c e f r a6 K q):wp C k o d x a i c e f r a6 K (s::q):=λA m b Y p y ae=>by
 let N:=dj.mp (show(pZ s&&hF q)=L from y.kv);let l:=Mv.mp (show va s+jN q=0 from y.ne);let n:=g9.mp (show max (kt s) (dY q)<=k from y.nb);let U:=g9.mp (show max (kt s) (dY q)<=60 from y.xH);let z:b.length+(lL s++fA q).length<=1000000:=y.kU;rw[cu,<-fD] at z;let D:l3 s+hu q<=m:=y.hm;let T:a6[A.length]?=I (fJ s):=by rw[<-y.qF,kE (bq _),p9];rfl
 let H:h5 (a5 C k ck [6] 42) o (ca (s::q)).length A.length Y K p=yI C k d ↑m (fJ s) (λaf G=>h5 (a5 C k ck [6] 42) o (ca q).length (A.length+1) (mh e f r o af d (fJ s) G) K) p:=by
  show(BY y.h4 T).trans (congrFun ?_ p);obtain⟨rfl,_⟩|⟨ai,G,rfl⟩:=ae
  .show Z' ..
  .show aaa ..
 let t:=abp s N.1;obtain⟨u,W⟩:=DP (C:=C) (kt s) (fJ s) t.1 U.1 k n.1 (p.set d (iU (g7 (lL s) b)));rw[t.2,l.1] at W;let dl:=(c5.mp y.aM).1;let J:=w (A++[fJ s]) (m-l3 s) (g7 (lL s) b) (mh e f r o ↑((m-l3 s:Nat):Int) d (fJ s) ↑(l3 s)) (p.set d (iU (g7 (lL s) b))++u) #[N.2,l.2,n.2,U.2,(ez ..).trans y.qF,h6 ((gh h).trans y.h4),h6 (iF dl),ao (c_ (CQ (lL s) b) _) z,(y.B.set v _).app _,Nat.le_sub_of_add_le' D] (.inr #[_,_,j]);rw[H,aaw (P8 (C:=C) s k n.1) y.aM (ao (bv ..) z) W (ao (bv ..) D)];rw[cu,Nat.sub_sub,<-Ko] at J;obtain⟨ag,E,V,Q,aa,ab,ac,O,g⟩:=J;show#[ag,E,V,Q,aa,ab,ac,ao (by rw[cu,fV];show bv ..) O,λah M=>(g ah M).trans ((eP (by rw[fV];show oX M dl)).trans (gh (iG M)))]
theorem aat(h:o≠d)(v:13<=d)(l:List bc):wp C k o d x a i c e f r a6 K l:=by
 induction l with
 |nil=>show VM
 |cons D l w=>show VL h v w
end
def aas{U:Int}{h:M V}(w:dT x a i aF D)(z:c<U/\U<=aF):C3 C ↑c ↑U h D=h D:=by
 show congrFun (?_:_=(cnt C).G λc=>(bh C .Gt ↑U c).G λ|true=>M.N (.bool ak)|false=>h) D|>.trans ((a8 (wT w)).trans (congrFun ?_ D))
 .split (bh C .LtE ↑U ↑c).G _=_;rw[show bh C .LtE ↑U ↑c=M.N ↥(U<=c) from j,a_];show Ca (f8 (EB.mpr z.1))
 .rw[show bh C .Gt ↑U ↑aF=M.N ↥(aF<U) from j,a_];show Ca (f8 (rI.mpr z.2))
theorem UA{e r m s t:V}{K:ap->M V}(G:D[d]?=I (.id es))(w:dT x a i aF D)(T:List Int):∀(Y:ap),(∀U∈T,c<U/\U<=aF)->(Y=mh e ↑c r o m d s t/\T≠[]\/∃b,Y=jJ e ↑c r o m d s t b)->∃b,kY (a5 C k ck [7] 41) d (es.map (·.1)) T Y K D=K (jJ e ↑c r o m d s t b) D:=by
 induction T with
 |nil=>
  intro Y _ g;obtain⟨_,z⟩|⟨b,rfl⟩:=g
  .cases z j
  .show#[b,Qs G]
 |cons U T h=>
  intro Y y g;show rC (h (jJ e ↑c r o m d s t ↑U) (λU v=>y U (.tail _ v)) (.inr #[_,j])) λb f=> #[b,(Qr G).trans (p_ (congrFun ?_ D) ((aas (C:=C) w (y U (.head _))).trans f))];obtain⟨rfl,_⟩|⟨b,rfl⟩:=g
  .show aad ..
  .show aae ..
mutual
theorem H2:∀{e:ah},c2 e=0->ct e=ak
 |.mk h aa,q=>by
  let q:=Mv.mp (show(if gd h then 1 else 0)+fO aa=0 from q);let f:gd h=ak:=by
   rcases z:gd h with _|_
   .rfl
   let q:=q.1;rw[z] at q;cases q
  rw[un,f,H3 (aa:=aa) q.2];rfl
theorem H3:∀{aa:List ah},fO aa=0->dQ aa=ak
 |[],_=>rfl
 |e::r,q=>by let q:=Mv.mp (show c2 e+fO r=0 from q);split (ct e||dQ r)=ak;rw[H2 (e:=e) q.1,H3 (aa:=r) q.2];rfl
end
mutual
theorem abb:∀s:bc,(lL s).length<=2*ov s
 |.expr _=>ff _
 |.cD _ _=>(by decide:1<=2*1)
 |.cb _ _ _=>(by decide:1<=2*1)
 |.bO _ y n=>by split (fA y++fA n).length<=2*(_+_+_);rw[cu];have:=yL y;have:=yL n;omega
theorem yL:∀p:List bc,(fA p).length<=2*cG p
 |[]=>ff _
 |s::r=>by split (lL s++fA r).length<=2*(ov s+cG r);rw[cu,Mx];show i6 (abb s) (yL r)
end
def Kg{E y:Nat}(z:0<E+y):0<E\/0<y:=by
 obtain _|E:=E
 .show .inr (em y▸z)
 show .inl (lf E)
def Jw{E y:List aq}(z:(∃U,U∈E)\/∃U,U∈y):∃U,U∈E++y:=z.elim (λ#[U,l]=> #[U,nB _ l]) λ#[U,l]=> #[U,mH _ l]
mutual
theorem aba:∀s:bc,0<l3 s->∃n,n∈lL s
 |.expr _,h=>cH h (hp 0)
 |.cD _ _,h=>cH h (hp 0)
 |.cb n _ _,_=> #[n,.head _]
 |.bO _ y n,h=>Jw ((Kg h).imp (yK y) (yK n))
theorem yK:∀p:List bc,0<hu p->∃n,n∈fA p
 |[],h=>cH h (hp 0)
 |s::r,h=>Jw ((Kg h).imp (aba s) (yK r))
end
theorem acC{A:W}(a:eQ c aF (execs p) (eval e) (eval cn))(g:qz (eval e hb)=I (u,A)):∃z,qz (((execs p).G λb=>eval cn) hb)=I (u,A.dZ z):=by
 let t:=a hb;cases ev:eval e hb with
 |ab=>rw[ev] at g;cases g
 |ok B H=>
  rw[ev] at t g;obtain⟨J,bJ,bZ,eT⟩:=t;show#[J.ci,?_];rw[b1 bJ,eT J.ci (λU b b=>j)]
  injections g;rfl
 |exc H=>
  rw[ev] at t g;obtain⟨z,bJ⟩|⟨J,bJ,bZ,eT⟩:=t
  .show#[z,?_];rw[fP bJ]
   injections g;rfl
  .show#[J.ci,?_];rw[b1 bJ,eT J.ci (λU b b=>j)]
   injections g;rfl
end
variable{jT:aG}
section
variable{o:Nat}{x:cX}
def I7{t:V->ap->(ap->M V)->M V}{Y:ap}(z:D[o]?=I (.list vs)):hZ t Y b8 ⇑o D=h5 t o vs.length 0 Y b8 D:=Bg z
def Qq{t:V->ap->(ap->M V)->M V}{Y:ap}(z:D[d]?=I (.id es)):hZ t Y b8 ⇑d D=kY t d (es.map (·.1)) (es.map (·.1)) Y b8 D:=Bg z
def U4(z:D[d]?=I (.id es))(c:es.length<=4000000):e_ ⇑d D=.ok ↑es.length D:=by
 show p_ (b:=(match aU es.length with|true=>M.N ↑es.length|false=>M.ab:M V) D) ?_ (congrFun (mt (g0 c)) D);split (match D[d]? with
  |some (.list O)=>match aU O.length with
   |true=>M.N ↑O.length
   |false=>M.ab
  |some (.id es)=>match aU es.length with
   |true=>M.N ↑es.length
   |false=>M.ab
  |some (.aX es)=>match aU es.length with
   |true=>M.N ↑es.length
   |false=>M.ab
  |_=>M.ab:M V) D=_
 rw[z]
def Ge{A:V}(z:hx D v A=I L):bh C .Eq v A D=.ok L D:=(aN (λd=>M.opt d D) z:M.opt (hx D v A) D=_)
theorem PC{G:Nat}(z:D[G]?=I (.list []))(s:D[o]?=I (.list [])):bh C .Eq ⇑G ⇑o D=.ok L D:=Ge (by
 unfold hx;rw[p3 (m:=59) z,p3 (m:=59) s];rfl)
structure kd(x:cX)(a i c:Int)(D s:aG):Prop where
 B:dT x a i c s
 le:D.length<=s.length
 fr:∀av,13<=av->av<D.length->s[av]?=D[av]?
theorem kd.trans{r:aG}(b:kd x a i c D s)(M:kd x a i aF s r):kd x a i aF D r:= #[M.B,ao b.le M.le,λY f o=>(M.fr Y f (fF o b.le)).trans (b.fr Y f o)]
theorem kd.app(w:dT x a i c D)(Y:List O):kd x a i c D (D++Y):= #[w.app Y,by rw[cu];show bv ..,λY b z=>eP z]
inductive zV(x:cX)(a i c:Int)(D:aG)(o:Nat)(a6:List V)(R:bA V)(F:aG->bA V):Prop
 |mk (s:aG) (h:R=F s) (aA:kd x a i c D s) (h4:s[o]?=I (.list a6)):zV x a i c D o a6 R F
inductive wi(x:cX)(a i c:Int)(D:aG)(R:bA V):Prop
 |mk (s:aG) (h:R=.ok (.bool L) s) (aA:kd x a i c D s):wi x a i c D R
def aap(l:cq (k+2) e c=I (p,cn,aF))(g:eR e)(a1:dq e=L)(v:cG p<=100000)(f:cy e<=60)(o:cy e<=k+2)(w:dT x a i c D):zV x a i aF D D.length (ca p) (ag (aH sc) (k+3) ck [⇑2,⇑11,ax e] D) (cg (aH sc) (k+2) ck [4] 45 (qN (ax e) ↑c (ax cn) D.length ↑(c2 e)) (az (aH sc) (k+2) ck [4] 45)):=by
 let h:=aby (sc:=sc) (x:=x) (a:=a) (i:=i) l g (ao v ()) (show 13<=D.length from w.len) [] (D++[.list []]) (w.app _) (dU _ _) (by rw[py];show ao (em _▸I0 p) (ao v ()));obtain⟨N,d,J,E,r⟩:=h;obtain⟨j,s⟩:=DP (C:=aH sc) (cy e) (ax e) (t9 e a1) f (k+2) o N;rw[x0 e a1] at s;let b:kd x a i aF D N:=by let T:=r.1;rw[cu] at T;show#[J,hH T,λY H y=>(r.2 Y H ?_ (iG y)).trans (eP y)];rw[cu];show zb y
 show#[N++j,?_,b.trans (kd.app J j),h6 E];rw[ZV,Z1,a8 (wT w),ZW,Z2,kq,ZX,Z3,a8 d,ZY,Z4,a8 s,Z5]
theorem aax(a1:dq e=L)(f:cy e<=60)(Q:(c2 e:Int)=0)(h:dT x a i c jT)(N:jT[o]?=I (.list [])){K:ap->M V}:wi x a i c jT (cg C k ck [4] 45 (qN (ax e) ↑c (ax e) o ↑(c2 e)) K jT):=by let b:=kd.app h [O.list []];show#[jT++[O.list []],?_,b];rw[La,jH,aL Q,PF (t9 e a1) f,a_];show(a8 (PC (h6 N) (dU _ _))).trans ((a8 (wT b.B)).trans ?_);rw[iT,a_,fh];rfl
def JF(a:List O)(U:Int):bh a .NotEq ↑U ↑U=M.N ak:=(show bh a .NotEq ↑U ↑U=M.N (!(U==U)) from j).trans (wL (fh U) j)
def IF(z:e9 e=L):aJ C (ax e) ↑1=M.N ↑e.kind:=by obtain⟨_,g,q,f⟩:=GI z;rw[f];show gf 1 1 j () j
inductive Fd(C:List O)(k o:Nat)(x:cX)(a i c:Int)(e f r:V)(a6:List V)(D:aG)(R:bA V):Prop
 |mk (m s t:V) (d:Nat) (u:V) (h:zV x a i c D o a6 R (az C k ck [8] 41 (jJ e f r o m d s t u))):Fd C k o x a i c e f r a6 D R
def aar{Q q D r:V}{U:Int}{h:ap->M V}{B b:aG}(G:B[d]?=I (.id es))(l:es.length<=4000000)(O:(es.length:Int)=aF-c)(w:dT x a i aF B)(e:ag C k gR [q] B=.ok ↑((0:Nat):Int) b)(f:aJ C q ↑1=M.N ↑U)(j:aJ C Q ↑1=M.N ↑U):
  cg C k ck [8] 41 (jJ Q ↑c q o ↑((0:Nat):Int) d D r u) h B=h (jJ Q ↑c q o ↑((0:Nat):Int) d D r u) b:=by
 let g:bh C .NotEq ↑((0:Nat):Int) ↑0=M.N ak:=by funext p;rfl'
 rw[aag,g,a_];show(a8 (U4 G l)).trans ((a8 (wT w)).trans ?_);rw[sub_int,a_,O,JF,a_];show(a8 e).trans ?_;rw[H1,a_,f,a_,j,a_,JF,a_]
theorem Qg(z:es≠[]):iU es=.id es:=by
 obtain _|⟨_,_⟩:=es
 .cases z j
 rfl
theorem aau(n:c0 3 e c p cn aF)(an:cn.kind=e.kind)(a1:e9 e=L)(b:e9 cn=L)(v:cG p<=100000)(aa:cO e<=60)(ab:cO e<=k)(Q:0<c2 e)(h:dT x a i aF jT)(N:jT[o]?=I (.list (ca p)))(A:13<=o):
  Fd C k o x a i aF (ax e) ↑c (ax cn) (ca p) jT (cg C k ck [4] 45 (qN (ax e) ↑c (ax cn) o ↑(c2 e)) (az C k ck [4] 45) jT):=by
 let T:cy cn<=cO e:=ao (bv _ 2) n.qT;let aq:p≠[]:=λz=>by subst z;cases(hp 0) (za Q n.na.symm)
 let af:=(c5.mp N).1;let al:=ao (ao A (mL af)) (bq jT.length);let ac:(fA p).length<=200000:=ao (yL p) (nD 2 v);let g:=aat (C:=C) (k:=k) (x:=x) (a:=a) (i:=i) (c:=aF) (o:=o) (d:=jT.length) (e:=ax e) (f:= ↑c) (r:=ax cn) (a6:=ca p) (K:=az C k ck [6] 43) (iG af) al p [] (c2 e) [] (sC (ax e) ↑c (ax cn) o ↑(c2 e) jT.length) (jT++[O.aX []]) #[n.kv,n.oz,ao n.cs ab,ao n.cs aa,j,h6 N,dU _ _,ao (ds (em _)) (ao ac ()),h.app _,ds n.na] (.inl #[j,aq]);rw[n.na,p9] at g;obtain⟨B,ah,H,q,D,ap,G,er,aj⟩:=g;let M:∀U,U∈(g7 (fA p) []).map (·.1)↔c<U/\U<=aF:=λU=>(Yi _ _).trans ((or_iff_left nofun).trans (n.ai U));let w:=abw (Yj (fA p) [] .nil) n.le M;rw[fU] at w;let E:(g7 (fA p) ([]:List (Int×V))).length<=4000000:=ao (CQ (fA p) []) (ao (ds (em _)) (ao ac ()));let ae:g7 (fA p) ([]:List (Int×V))≠[]:=λz=>rC (yK p (by rw[n.na];show Q)) λU l=>by let l:=(M U).mpr ((n.ai U).mp l);rw[z] at l;cases l
 rw[Qg ae] at G;obtain⟨ar,J⟩:=UA (C:=C) (k:=k) (c:=c) (o:=o) (e:=ax e) (r:=ax cn) (m:= ↑((0:Nat):Int)) (s:=ah) (t:=H) (K:=az C k ck [7] 42) G D ((g7 (fA p) []).map (·.1)) _ (λU v=>(M U).mp v) (.inl #[j,λl=>ae (List.map_eq_nil_iff.mp l)]);obtain⟨ag,u⟩:=DP (C:=C) (cy cn) (ax cn) (t9 cn n.ok) (ao T aa) k (ao T ab) B;rw[x0 cn n.ok,n.n0] at u;let am:jT.length<=B.length:=ao (by rw[cu];show bv ..) er;show#[↑((0:Nat):Int),ah,H,jT.length,ar,B++ag,?_,kd.trans (s:=B) #[D,am,λY _ y=>(aj Y y).trans (eP y)] (kd.app D ag),h6 ap];rw[La,jH,aS (Int.ofNat_ne_zero.mpr (tk Q)),Z7,Z8,kq,Z9,Z_,I7 (h6 N)];show q.trans ?_;rw[aab,aac,Qq G,J,aaf];show aar G E w D u (an▸IF b) (IF a1)
def aaq{U:aG}{A:W}{z:List (Int×(Int×V))}{f m s t L6:V}(a1:e9 e=L)(b:e9 cn=L)(aw:hF p=L)(v:cG p<=100000)(aq:dY p<=k+1)(ar:cy cn<=k+1)(as:cy e<=k+1)(r:dT x a i c U)(av:U[o]?=I (.list (ca p)))(g:qz (eval e hb)=I (u,A))(E:zO u A)(D:qz (((execs p).G λ_=>eval cn) hb)=I (u,A.dZ z)):
  wi x a i c U (az C (k+2) ck [8] 41 (jJ (ax e) f (ax cn) o m d s t L6) U):=by
 obtain⟨h,aC,aA,am,aj,J,T⟩:=Mi (C:=C) (k:=k) (FX r) r.len av aw b aq ar v D;let ah:=r.stays J T;let n:=kd.app ah [O.list []];obtain⟨l,aB,ay,w,ai,ac,Q⟩:=Mi (C:=C) (k:=k) (p:=h.length) (q:=[]) (e:=e) (FX n.B) n.B.len (dU _ _) j a1 (ff _) as (ff _) (u:=u) (eN:=A) (by rw[execs_nil];show g);let af:=n.B.stays ac Q;let ae:=ao n.le ac;let ab:∀Y,Y<h.length->l[Y]?=h[Y]? :=λY aa=>(Q Y (by rw[cu];show zb aa)).trans (eP aa);show#[l,?_,#[af,ao J ae,λY _ aa=>(ab Y (fF aa J)).trans (T Y aa)]];let H:bh C .Eq (sp U.length u (A.dZ z)) (sp (h++[O.list []]).length u A) l=.ok L l:=Ge (by
  unfold hx;rw[HY (aj.stays ae ab) #[E.u,E.bp,E.ee],HY ai E,S_];show aN I (S' u A))
 rw[aah,aai];let an:ag C (k+2) ek [⇑2,⇑o,ax cn] U=.ok (sp U.length u (A.dZ z)) h:=am;let al:ag C (k+2) ek [⇑2,⇑h.length,ax e] (h++[O.list []])=.ok (sp (h++[O.list []]).length u A) l:=w;let ap:∀y u A,aJ C (sp y u A) ↑5=M.N ↑0:=λy u A=>gf 5 5 j () j;show(a8 an).trans ?_;rw[aaj,ap,a_,iT,a_,fh];dsimp only;rw[kq];show(a8 al).trans (a8 H)
def WD(l:cq (k+1) e c=I (p,cn,aF))(A:ct e=ak):(p,cn,aF)=([],e,c):=(x5 (Q:=λq=>q=([],e,c)) (λa=>j) λa z=>by rw[A] at z;cases z).of l
def aav(aa:Good e)(O:41<=k)(w:dT x a i c D):∃y p,ag (aH sc) (k+3) ck [⇑2,⇑11,ax e] D=.ok (.bool L) y/\dT x a i p y/\D.length<=y.length/\∀Y,13<=Y->Y<D.length->y[Y]?=D[Y]? :=by
 let J:=AU aa.x;let ah:42<=k+1:=hJ O;let M:cO e<=k+1:=ao aa.cO ah;let q:cy e<=cO e:=ao (bv _ 2) (u8 e);obtain⟨v,an,p,l⟩:=abA (k:=k+2) J aa.r (ao aa.fy (hJ ah)) c;let n:=abx l J;let N:=abz l #[aa.jU,aa.HN.gi];let j:cG v<=100000:=ao (bv _ 3) (ao n.cJ aa.cJ);obtain⟨h,ab,o,ac⟩:=aap (sc:=sc) l aa.HN J j (ao q (ao aa.cO ())) (lW (ao q M)) w;let du:∀p,wi x a i p D (ag (aH sc) (k+3) ck [⇑2,⇑11,ax e] D)->∃y p,ag (aH sc) (k+3) ck [⇑2,⇑11,ax e] D=.ok (.bool L) y/\dT x a i p y/\D.length<=y.length/\∀Y,13<=Y->Y<D.length->y[Y]?=D[Y]? :=λp #[ae,z,b]=> #[ae,p,z,b.B,b.le,b.fr];show du p ?_;obtain Q|Q:=afu (c2 e)
 .have:=WD l (H2 Q);injection this with aA V
  injection V with V ai
  rw[aA] at ac;rw[V] at ab;rw[ai] at o;rw[ai];obtain⟨A,G,al⟩:=aax (C:=aH sc) (k:=k+2) J (ao q (ao aa.cO ())) (aN rJ Q) o.B ac (K:=az (aH sc) (k+2) ck [4] 45);show#[A,ab.trans G,o.trans al]
 .let T:e9 an=L:=n.toqg.qA ((p8 _).mp (dj.mp aa.x).2);obtain⟨as,ae,aw,am,ay,U,u,af,aq⟩:=aau (C:=aH sc) (k:=k+2) n N.2.2.1 aa.x T j (ao aa.cO ()) (lW M) Q o.B ac w.len;obtain⟨aB,H,g,E⟩:=aa.run;obtain⟨z,ar⟩:=acC N.2.1 g;obtain⟨av,ap,aj⟩:=aaq (C:=aH sc) (k:=k) (d:=am) (f:= ↑c) (m:=as) (s:=ae) (t:=aw) (L6:=ay) aa.x T n.kv j (ao n.cs M) (ao n.ce (ao q M)) (ao q M) af.B aq g E ar;show#[av,ab.trans (u.trans ap),(o.trans af).trans aj]
end
def isIn{c:Type}[DecidableEq c](l:List c)(x:c):Bool:=l.any λy=> ↥(x=y)
def g3[DecidableEq aq]{T:List aq}{u:aq}(z:isIn T u=L):u∈T:=by obtain⟨e,f,o⟩:=wa.mp z;show bS o▸f
def qJ{l:List Int}(z:isIn l x=L)(p:isIn l y=ak):x≠y:=λQ=>by rw[Q,p] at z;cases z
def i4(k:Int):Bool:=isIn [1,7,9,12,13,16,17,18,19,20] k
def rY(k:Int):Bool:=isIn [1,7,12,13,16,18,19,20] k
def uX(k i:Int):Bool:=isIn [(7,1),(7,2),(18,3),(16,4),(19,5),(20,6),(12,7),(13,8)] (k,i)
def wW:List (Int×Int×Int):=[(12,4,7),(12,4,18),(12,4,20),(12,2,16),(12,2,17),(18,5,12),(7,5,12),(20,6,7),(7,7,20),(9,1,7),(7,1,9),(16,3,12)]
def wV(k A a:Int):Bool:=isIn wW (k,A,a)
def t1(Q:ah):Bool:=bG Q.aM||i4 Q.kind
def pR(A:Str):Bool:=isIn (["+","-","/"]:List Str) A
def sR(A:Str):Bool:=isIn (["<","=="]:List Str) A
def uz(i:Int):Bool:= ↥(0<=i)&& ↥(i<=100000)
def CL:ah->Bool
 |.mk h aa=>match h with
  |.aj k i=>match aa with
   |[]=> ↥(k=7)&&(↥(i=1)|| ↥(i=2))
   |_=>ak
  |.dB=>match aa with
   |[r]=> ↥(r.kind=16)
   |_=>ak
  |.c8=>match aa with
   |[_,_]=>L
   |_=>ak
  |_=>ak
def Ax:ah->Bool
 |.mk h aa=>match h with
  |.ew k w _=>match aa with
   |[a]=> ↥(k=12)&& ↥(w=4)&& ↥(a.kind=7)
   |_=>ak
  |_=>ak
def sT(Q:ah):Bool:= ↥(Q.kind=13)&& !hB Q.aM||Ax Q
def T5:ah->Bool
 |.mk h aa=>match h with
  |.const k v=>match aa with
   |[]=>match v with
    |.none=> ↥(k=14)
    |_=>ak
   |_=>ak
  |_=>ak
def jr:bP->List ah->Bool
 |.const k v=>λ
  |[]=>match v with
    | ↑i=> ↥(k=7)&& ↥(0<=i)&& ↥(i<=1000)
    |.none=> ↥(k=14)
    |_=>ak
  |_=>ak
 |.aj k i=>λ|[]=>uX k i|_=>ak
 |.this k=>λ|[]=> ↥(k=16)|| ↥(k=18)|_=>ak
 |.cb k=>λ|[t]=>rY k&&i4 t.kind|_=>ak
 |.call k id=>λaa=>rY k&&uz id&&aa.all t1
 |.bin A=>λ|[a,b]=>pR A&& ↥(a.kind=7)&& ↥(b.kind=7)|_=>ak
 |.len=>λ|[a]=> ↥(a.kind=19)|_=>ak
 |.dB=>λ|[a]=> ↥(a.kind=16)|_=>ak
 |.c8=>λ|[a,b]=> ↥(a.kind=19)&& ↥(b.kind=7)|_=>ak
 |.bO k=>λ|[t,a,b]=> ↥(t.kind=1)&&i4 k&& !↥(k=13)&& ↥(a.kind=k)&& ↥(b.kind=k)|_=>ak
 |.seq k=>λ|v::es=> ↥(v.kind=k)&&i4 k&& !↥(k=13)&&es.all λe=>i4 e.kind|_=>ak
 |.ew k w _=>λ|[a]=>wV k w a.kind|| ↥(k=20)&& ↥(w=8)&&T5 a|_=>ak
 |.dJ i=>λ|[a]=>(↥(i=1)|| ↥(i=2))&& ↥(a.kind=7)|_=>ak
 |.ref=>λ|[p]=>CL p|_=>ak
 |.new k id=>λaa=>(↥(k=16)|| ↥(k=18))&&uz id&&aa.all t1
 |.k4=>λ|[a]=> ↥(a.kind=7)|_=>ak
 |.iS=>λaa=>aa.all λe=> ↥(e.kind=7)
 |.is i=>λ|[a]=>(↥(i=0)|| ↥(i=4))&& ↥(a.kind=12)|_=>ak
 |.as=>λ|[a]=> ↥(a.kind=12)|_=>ak
 |.hg id=>λ|[]=>uz id|[a]=>uz id&&(↥(a.kind=12)|| ↥(a.kind=16))|_=>ak
 |.bV=>λaa=>i7 1 aa.length&&aa.all sT
 |.lift k A=>λ|[a,b]=>(↥(k=20)&&pR A|| ↥(k=1)&&sR A)&& ↥(a.kind=20)&& ↥(b.kind=20)|_=>ak
 |.ix=>λ|[a]=> ↥(a.kind=20)|_=>ak
 |.slot _ _=>λc=>ak
mutual
noncomputable def la:ah->Bool
 |.mk h aa=>jr h aa&&b' aa.length 10&&oN aa
noncomputable def oN:List ah->Bool
 |[]=>L
 |e::r=>la e&&oN r
end
def h9{E:Bool}(z:(E||b)=L):E=L\/b=L:=hI.mp z
def ol{p:Int}(z: ↥(e.kind=p)=L):e.kind=p:=bS z
section
variable{P:List ah->Prop}(aa:List ah)
@[elab_as_elim] theorem uL{y:Bool}(u:(match aa with|[]=>y|_=>ak)=L)(z:y=L->P []):P aa:=by
 obtain _|_:=aa
 .show z u
 .cases u
@[elab_as_elim] theorem kl{t:ah->Bool}(u:(match aa with|[a]=>t a|_=>ak)=L)(z:∀a,t a=L->P [a]):P aa:=by
 obtain _|⟨a,_|_⟩:=aa
 .cases u
 .show z a u
 .cases u
@[elab_as_elim] theorem uM{f:ah->ah->Bool}(u:(match aa with|[a,b]=>f a b|_=>ak)=L)(z:∀a b,f a b=L->P [a,b]):P aa:=by
 obtain _|⟨a,_|⟨b,_|_⟩⟩:=aa
 .cases u
 .cases u
 .show z a b u
 .cases u
@[elab_as_elim] theorem IG{t:ah->ah->ah->Bool}(u:(match aa with|[a,b,c]=>t a b c|_=>ak)=L)(z:∀a b c,t a b c=L->P [a,b,c]):P aa:=by
 obtain _|⟨a,_|⟨b,_|⟨c,_|_⟩⟩⟩:=aa
 .cases u
 .cases u
 .cases u
 .show z a b c u
 .cases u
@[elab_as_elim] theorem IR{t:ah->List ah->Bool}(u:(match aa with|v::es=>t v es|_=>ak)=L)(z:∀v es,t v es=L->P (v::es)):P aa:=by
 obtain _|⟨E,es⟩:=aa
 .cases u
 .show z E es u
end
theorem x_(z:e.kind≠21):bG e.aM=ak:=by
 obtain⟨s,T⟩:=e;cases s
 case ref=>cases z j
 all_goals rfl
def x9{p:Int}(z:e.kind=p)(O:p≠21):bG e.aM=ak:=x_ (z▸O)
def hD{p:Int}(z: ↥(e.kind=p)=L)(O:p≠21):bG e.aM=ak:=x9 (ol z) O
def Me{p:Int}(z:i4 p=L):0<=p:=(by decide:∀p∈([1,7,9,12,13,16,17,18,19,20]:List Int),0<=p) p (g3 z)
def FE{p:Int}(z:rY p=L):0<=p:=(by decide:∀p∈([1,7,12,13,16,18,19,20]:List Int),0<=p) p (g3 z)
def ve(z:i4 e.kind=L):bG e.aM=ak:=x_ (qJ z j)
def J5{A:Str}(z:pR A=L):oy A=L:=(by decide:∀d∈(["+","-","/"]:List Str),oy d=L) A (g3 z)
def W5{A:Str}(z:sR A=L):oy A=L:=(by decide:∀d∈(["<","=="]:List Str),oy d=L) A (g3 z)
structure NB(h:bP)(aa:List ah):Prop where
 bF:h.bF aa.length=L
 aM:sr h=L
 yc:vf h aa=L
 f0:(p2 h||pY aa)=L
 rs:yG h aa=L
 gi:yJ h aa=L
 di:s' h=L
 ns:ow h=L
 aQ:0<=h.kind
theorem Co(z:(!b)=L):b=ak:=by
 cases b
 .rfl
 .cases z
def mx{E:ah}(z:bG E.aM=ak):pY [E]=L:=a9 (pP z) j
def yw{E y:ah}(z:bG E.aM=ak)(s:bG y.aM=ak):pY [E,y]=L:=a9 (pP z) (mx s)
def CU(z:∀Q∈aa,bG Q.aM=ak):pY aa=L:=j'.mpr λQ V=>pP (z Q V)
set_option tactic.hygienic true in
@[elab_as_elim] theorem Kc{d:bP->List ah->Prop}(z:bP)(H:List ah)(u:CL (.mk z H)=L)(T:∀p i,(↥(p=7)&&(↥(i=1)|| ↥(i=2)))=L->d (.aj p i) [])(t:∀q,↥(q.kind=16)=L->d .dB [q])(Q:∀E g,d .c8 [E,g]):d z H:=by
 cases z
 case aj p i=>show uL H u (T p i)
 case dB=>show kl H u t
 case c8=>show uM (f:=λa a=>L) H u λE g a=>Q E g
 all_goals cases u
set_option tactic.hygienic true in
@[elab_as_elim] theorem F5{d:ah->Prop}(Q:ah)(u:Ax Q=L)(z:∀p A m T,Ax (.mk (.ew p A m) T)=L->d (.mk (.ew p A m) T)):d Q:=by
 obtain⟨s,T⟩:=Q;cases s
 case ew p A m=>show z p A m T u
 all_goals cases u
def Xo(z:sT e=L):bG e.aM=ak:=by
 obtain z|z:=h9 z
 .show hD (aw z).1 ()
 .show F5 e z λa a a a a=>j
def Jb:∀v∈([(7,1),(7,2),(18,3),(16,4),(19,5),(20,6),(12,7),(13,8)]:List (Int×Int)),sr (.aj v.1 v.2)=L/\0<=v.1:=by decide
def Gk:∀v∈wW,sr (.ew v.1 v.2.1 0)=L/\(!↥(v.2.1=8))=L/\v.2.2≠21/\0<=v.1:=by decide
def pw{p Y:Int}(z: ↥(p=Y)=L)(s:0<=Y):0<=p:=bS z▸s
theorem L3(u:jr h aa=L):NB h aa:=by
 cases h with
 |const p B=>
  show uL aa u λu=>?_;cases B
  case int=>show#[j,j,j,j,j,j,j,j,pw (aw (aw u).1).1 ()]
  case none=>show#[j,j,j,j,j,j,j,j,pw u ()]
  all_goals cases u
 |aj p i=>show uL aa u λu=> #[j,(Jb _ (g3 u)).1,j,j,j,j,j,j,(Jb _ (g3 u)).2]
 |this p=>show uL aa u λu=> #[j,j,j,j,j,j,u,j,(h9 u).elim (λu=>pw u ()) λu=>pw u ()]
 |slot=>cases u
 |cb p=>show kl aa u λE u=> #[j,j,j,mx (ve (aw u).2),j,j,j,j,FE (aw u).1]
 |call p id=>show#[j,j,j,j,j,j,j,j,FE (aw (aw u).1).1]
 |bin a=>show uM aa u λE y u=> #[j,J5 (aw (aw u).1).1,j,yw (hD (aw (aw u).1).2 ()) (hD (aw u).2 ()),j,j,j,j,fG 7]
 |len=>show kl aa u λE u=> #[j,j,j,mx (hD u ()),j,j,j,j,fG 7]
 |dB=>show kl aa u λE u=> #[j,j,j,mx (hD u ()),j,j,j,j,fG 7]
 |c8=>show uM aa u λE y u=> #[j,j,j,yw (hD (aw u).1 ()) (hD (aw u).2 ()),j,j,j,j,fG 7]
 |bO p=>show IG aa u λr E y u=> #[j,j,j,a9 (pP (hD (aw (aw (aw (aw u).1).1).1).1 ())) (yw (x9 (ol (aw (aw u).1).2) (qJ (aw (aw (aw (aw u).1).1).1).2 j)) (x9 (ol (aw u).2) (qJ (aw (aw (aw (aw u).1).1).1).2 j))),j,a9 j (a9 (aw (aw u).1).2 (aw u).2),j,j,Me (aw (aw (aw (aw u).1).1).1).2]
 |seq p=>show IR aa u λB b u=>?_;let O:=(aw (aw (aw u).1).1).2;let f:=(aw (aw (aw u).1).1).1;let x:bG B.aM=ak:=x9 (ol f) (qJ O j);show#[j,j,j,CU (bg.mpr #[x,λQ V=>ve (j'.mp (aw u).2 Q V)]),j,a9 j (a9 f (pP x)),j,j,Me O]
 |ew p A m=>
  show kl aa u λE u=>?_;obtain u|u:=h9 u
  .let g:=Gk _ (g3 u);show#[j,g.1,by split (!↥(A=8)||_)=L;rw[g.2.1];rfl,mx (x_ g.2.2.1),j,j,j,j,g.2.2.2]
  .obtain rfl:p=20:=bS (aw (aw u).1).1;obtain rfl:A=8:=bS (aw (aw u).1).2;obtain⟨s,T⟩:=E;cases s
   case const=>show#[j,j,j,j,j,j,j,j,fG 20]
   all_goals show cY (aw u).2
 |dJ i=>show kl aa u λE u=> #[j,(h9 (aw u).1).elim (λh=>bS h▸j) λh=>bS h▸j,j,mx (hD (aw u).2 ()),j,j,j,j,fG 7]
 |ref=>show kl aa u λv u=>?_;obtain⟨s,T⟩:=v;show Kc s T u (λc c c=> #[j,j,j,j,j,j,j,j,fG 21]) (λq u=> #[j,j,j,j,u,j,j,j,fG 21]) λc c=> #[j,j,j,j,j,j,j,j,fG 21]
 |new p id=>show#[j,(h9 (aw (aw u).1).1).elim (λh=>bS h▸j) λh=>bS h▸j,j,j,j,j,j,j,(h9 (aw (aw u).1).1).elim (λu=>pw u ()) λu=>pw u ()]
 |k4=>show kl aa u λE u=> #[j,j,j,mx (hD u ()),j,j,j,j,fG 19]
 |iS=>show#[j,j,j,CU λQ V=>hD (j'.mp u Q V) (),j,j,j,j,fG 19]
 |is i=>show kl aa u λE u=> #[j,(h9 (aw u).1).elim (λh=>bS h▸j) λh=>bS h▸j,j,mx (hD (aw u).2 ()),j,j,j,j,fG 1]
 |as=>show kl aa u λE u=> #[j,j,j,mx (hD u ()),j,j,j,j,fG 16]
 |hg id=>
  obtain _|⟨E,_|_⟩:=aa
  .show#[j,j,j,j,j,j,j,j,fG 17]
  .show#[j,j,j,mx ((h9 (aw u).2).elim (λu=>hD u ()) λu=>hD u ()),j,j,j,j,fG 17]
  .cases u
 |bV=>show#[(aw u).1,j,j,CU λQ V=>Xo (j'.mp (aw u).2 Q V),j,a9 (aw u).1 j,j,j,fG 13]
 |lift p a=>show uM aa u λE y u=> #[j,(h9 (aw (aw u).1).1).elim (λh=>J5 (aw h).2) λh=>W5 (aw h).2,j,yw (hD (aw (aw u).1).2 ()) (hD (aw u).2 ()),j,j,j,j,(h9 (aw (aw u).1).1).elim (λu=>pw (aw u).1 ()) λu=>pw (aw u).1 ()]
 |ix=>show kl aa u λE u=> #[j,j,j,mx (hD u ()),j,j,j,j,fG 20]
def vH(u:la (.mk h aa)=L):jr h aa=L/\aa.length<=10/\oN aa=L:= #[(aw (aw u).1).1,cc (aw (aw u).1).2,(aw u).2]
def acF(s:oN aa=L)(z:e∈aa):la e=L:=xX (F:=oN) (λa a=>j) s e z
structure NL(e:ah):Prop where
 x:dq e=L
 r:lJ e=L
 s:s2 e=L
 l:pQ e=L
 t:qo s' e=L
 n:qo ow e=L
structure NM(e:List ah):Prop where
 x:i5 e=L
 r:mv e=L
 s:p0 e=L
 l:pQ.sQ e=L
 t:lu s' e=L
 n:lu ow e=L
mutual
theorem L4:∀e:ah,la e=L->NL e
 |.mk h aa,x=>
  let aA:=L3 (vH x).1;let a6:=L5 aa (aw x).2;let b6:=j2.mpr (ao (vH x).2.1 (by decide:10<=1000))
  #[a9 (a9 (a9 (a9 (a9 (a9 (cW aA.aQ) aA.aM) aA.bF) b6) aA.yc) aA.f0) a6.x,a9 aA.rs a6.r,a9 aA.gi a6.s,a9 b6 a6.l,a9 aA.di a6.t,a9 aA.ns a6.n]
theorem L5:∀aa:List ah,oN aa=L->NM aa
 |[],_=> #[j,j,j,j,j,j]
 |y::r,x=>
  let a6:=L4 y (aw x).1;let B:=L5 r (aw x).2
  #[a9 a6.x B.x,a9 a6.r B.r,a9 a6.s B.s,a9 a6.l B.l,a9 a6.t B.t,a9 a6.n B.n]
end
variable{H kh HB cw:Nat}{xs jY:List Int}
section
variable{B b g dR:Nat}{w a':W}
def within(w:Nat)(i:Int):Prop:=i.natAbs<=w
theorem within.aD(z:within B i)(T:B<=H):within H i:=ao z T
theorem within.add{Y:Int}(z:within B i)(T:within H Y):within (B+H) (i+Y):=ao (Int.natAbs_add_le i Y) (i6 z T)
theorem within.sub{Y:Int}(z:within B i)(T:within H Y):within (B+H) (i-Y):=ao (Int.natAbs_sub_le i Y) (i6 z T)
def aeP(u:0<=i)(z:i<=k)(T:k<=B):within B i:=by unfold within;omega
def k9(w:Nat):cr->Prop
 |.c v=>within w v
 |.a xs=>xs.length<=12/\∀x∈xs,within w x
 |.n v=>within w v
 |_=>True
theorem k9.aD(z:k9 B t)(T:B<=H):k9 H t:=by
 cases t
 case c=>show ao z T
 case a=>show#[z.1,λu b=>(z.2 u b).aD T]
 case n=>show ao z T
 all_goals trivial
def i3(A:W)(U:Int):Prop:=U=0\/(1<=U/\∃t,A.a2[(U-1).toNat]?=I t)
def i2(A:W)(U:Int):Prop:=U=0\/(1<=U/\∃x,A.a2[(U-1).toNat]?=I (.c x))
def jm(A:W)(U:Int):Prop:=U=0\/(1<=U/\∃xs,A.a2[(U-1).toNat]?=I (.a xs))
def nv(B:V):Prop:=B=.none\/∃s,B=.str s/\gp s=L/\s.cps.size<=1
inductive hP:List cr->Prop
 |mk {p q x y:Int} {xs jY:List Int} {r:List cr}:2<=r.length->hP (.c p::.c q::.a (x::xs)::.a (y::jY)::r)
structure fw(B g:Nat)(w:W):Prop where
 fZ:w.bp.length<=14
 kn:∀r∈w.bp,vx r=L
 k_:w.a2.length<=g
 di:∀t∈w.a2,k9 B t
 ku:hP w.a2
 b4:within B w.b4
 cp:within B w.cp
 dV:i2 w w.dV
 er:jm w w.er
 dW:within B w.dW.2
 ed:i3 w w.ed
 ee:nv w.ee
theorem fw.aD(z:fw B g w)(T:B<=H)(m:g<=HB):fw H HB w:= #[z.fZ,z.kn,ao z.k_ m,λr A=>(z.di r A).aD T,z.ku,z.b4.aD T,z.cp.aD T,z.dV,z.er,z.dW.aD T,z.ed,z.ee]
def d3(w:Nat)(A:W)(k:Int)(B:V):Prop:=
 if k=16 then∃n,B= ↑n/\i2 A n else if k=12\/k=17 then∃n,B= ↑n/\i3 A n else if k=19 then∃n,B= ↑n/\jm A n
 else if k=18 then∃x y,B=cU x y else if k=20 then∃x y,B=cU x y/\within w y else if k=13 then nv B
 else if k=130 then∃s,B=.str s/\gp s=L else if k=14 then B=.none else∃i,B= ↑i/\within w i
structure d_(w a':W):Prop where
 ev:f9 w a'
 fZ:w.bp.length<=a'.bp.length
theorem d_.refl(A:W):d_ A A:= #[f9.refl A,bq _]
theorem d_.trans{E y g:W}(u:d_ E y)(e:d_ y g):d_ E g:= #[u.ev.trans e.ev,ao u.fZ e.fZ]
theorem d_.same(z:a'.a2=w.a2)(T:w.bp.length<=a'.bp.length):d_ w a':= #[λi r A=> #[r,by rw[z];show A,.same r],T]
theorem i3.aD{U:Int}(z:i3 w U)(E:d_ w a'):i3 a' U:=z.imp id λz=> #[z.1,z.2.elim λr A=>(E.ev _ r A).elim λV l=> #[V,l.1]]
theorem i2.aD{U:Int}(z:i2 w U)(E:d_ w a'):i2 a' U:=z.imp id λz=> #[z.1,by
 obtain⟨r,A⟩:=z.2;obtain⟨V,f,o⟩:=E.ev _ _ A;cases o
 case c=>show#[_,f]
 case same=>show#[_,f]]
theorem jm.aD{U:Int}(z:jm w U)(E:d_ w a'):jm a' U:=z.imp id λz=> #[z.1,by
 obtain⟨r,A⟩:=z.2;obtain⟨V,f,o⟩:=E.ev _ _ A;cases o
 case a=>show#[_,f]
 case same=>show#[_,f]]
def oA{g:Prop}[Decidable g]{P d h b:Prop}(z:if g then P else d)(t:P->h)(p:d->b):if g then h else b:=by
 by_cases U:g
 .rw[aL U] at z|-;show t z
 .rw[aS U] at z|-;show p z
def ug{P d H:aq->Prop}(z:∃E,P E/\d E)(t:∀E,d E->H E):∃E,P E/\H E:=z.elim λE z=> #[E,z.1,t E z.2]
theorem d3.aD{p:Int}(z:d3 B w p v)(T:B<=H)(E:d_ w a'):d3 H a' p v:=
 oA z (λz=>ug z λa z=>z.aD E) λz=>oA z (λz=>ug z λa z=>z.aD E) λz=>oA z (λz=>ug z λa z=>z.aD E) λz=>
 oA z id λz=>oA z (λz=>z.elim λu z=> #[u,ug z λa z=>z.aD T]) λz=>oA z id λz=>oA z id λz=>oA z id λz=>ug z λa z=>z.aD T
theorem nv.dg(z:nv v):dg (n+1) v=L:=by
 obtain rfl|⟨D,rfl,z,_⟩:=z
 .show Gs
 .show z
def jc{g:Prop}[Decidable g]{P d H:Prop}(z:if g then P else d)(t:P->H)(p:d->H):H:=by
 split at z
 .show t z
 .show p z
theorem d3.dg{p:Int}(z:d3 B w p v):dg 9 v=L:=
 jc z (λ#[_,Q,_]=>Q▸j) λz=>jc z (λ#[_,Q,_]=>Q▸j) λz=>jc z (λ#[_,Q,_]=>Q▸j) λz=>
 jc z (λ#[_,_,Q]=>Q▸j) λz=>jc z (λ#[_,_,Q,_]=>Q▸j) λz=>jc z (λz=>z.dg) λz=>jc z (λ#[_,Q,z]=>Q▸z) λz=>jc z (λQ=>Q▸j) λ#[_,Q,_]=>Q▸j
theorem d3.Gq{p:Int}(z:d3 B w p v):Mine.dg 10 v=L:=
 jc z (λ#[_,Q,_]=>Q▸j) λz=>jc z (λ#[_,Q,_]=>Q▸j) λz=>jc z (λ#[_,Q,_]=>Q▸j) λz=>
 jc z (λ#[_,_,Q]=>Q▸j) λz=>jc z (λ#[_,_,Q,_]=>Q▸j) λz=>jc z (λz=>z.dg) λz=>jc z (λ#[_,Q,z]=>Q▸z) λz=>jc z (λQ=>Q▸j) λ#[_,Q,_]=>Q▸j
def bd(b:Nat)(A:W):Nat:=131072*2^(b+A.bp.length)
def lv(T:b<=kh)(z:w.bp.length<=a'.bp.length):bd b w<=bd kh a':=nD _ (afI () (i6 T z))
def t4:131072<=bd b w:=Nat.le_mul_of_pos_right _ (Nat.pow_pos ())
def FZ(z:a'.bp.length=w.bp.length+1):bd b a'=bd b w+bd b w:=by unfold bd;rw[z,<-fD,afJ];omega
def Oq:bd (b+1) w=bd b w+bd b w:=by unfold bd;rw[nC,afJ];omega
def gM(u:0<=i)(f:i<=131072):within (bd b w) i:=aeP (k:=131072) u f t4
def nX(b s:Nat)(A:W)(H:Nat->W->aq->Prop)(o:jv aq):Prop:=match o with
 |.ok a a'=>fw (bd b a') s a'/\d_ A a'/\H b a' a
 |.exc a'=>fw (bd b a') s a'/\d_ A a'
 |.ab=>False
theorem nX.tZ{H:Nat->W->aq->Prop}{d:jv aq}(E:d_ w a')(z:nX b g a' H d):nX b g w H d:=by
 cases d
 .show#[z.1,E.trans z.2.1,z.2.2]
 .show#[z.1,E.trans z.2]
 .show z
def bm(b s U m:Nat)(A:W)(H:Nat->W->aq->Prop)(x:P aq):Prop:=fw (bd b A) s A->b+U<=68->s+m<=100000->nX (b+U) (s+m) A H (x A)
section
variable{R:Nat->W->aq->Prop}{S:Nat->W->aC->Prop}{x:P aq}{f:aq->P aC}
theorem bm.jX(p:fw (bd b w) g w->bm b g n m w R x):bm b g n m w R x:=λz=>p z z
theorem bm.G(z:bm b g n m w R x)(p:∀E Y,d_ w Y->R (b+n) Y E->bm (b+n) (g+m) cw dR Y S (f E)):bm b g (n+cw) (m+dR) w S (x.G f):=λD C O=>by
 rw[<-fD] at C O;let y:=z D (ao (bv ..) C) (ao (bv ..) O);unfold P.G;rw[<-fD,<-fD];revert y;generalize x w=d;intro y;cases d
 .show(p _ _ y.2.1 y.2.2 y.1 C O).tZ y.2.1
 .show#[y.1.aD (lv (bv ..) (bq _)) (bv ..),y.2]
 .show y
theorem bm.up(z:bm b g n m w R x)(T:n<=cw)(p:m<=dR)(t:∀Y E,R (b+n) Y E->R (b+cw) Y E):bm b g cw dR w R x:=λD C O=>by
 let y:=z D (ao (e3 T _) C) (ao (e3 p _) O);revert y;generalize x w=d;intro y;cases d
 .show#[y.1.aD (lv (e3 T _) (bq _)) (e3 p _),y.2.1,t _ _ y.2.2]
 .show#[y.1.aD (lv (e3 T _) (bq _)) (e3 p _),y.2]
 .show y
theorem bm.imp{a:Nat->W->aq->Prop}(z:bm b g n m w R x)(t:∀Y E,R (b+n) Y E->a (b+n) Y E):bm b g n m w a x:=λD C O=>by
 let y:=z D C O;revert y;generalize x w=d;intro y;cases d
 .show#[y.1,y.2.1,t _ _ y.2.2]
 .show y
 .show y
theorem fw.up(z:fw (bd b w) g w):fw (bd (b+n) w) (g+m) w:=z.aD (lv (bv ..) (bq _)) (bv ..)
theorem bm.ok{E:aq}(Q:x w=.ok E w)(q:R (b+n) w E):bm b g n m w R x:=λD a a=>by rw[Q];show#[D.up,d_.refl w,q]
theorem bm.N{E:aq}(q:R (b+n) w E):bm b g n m w R (P.N E):=.ok j q
theorem bm.throw:bm b g n m w R (eY c):=λD a a=>
 let z:fw (bd (b+n) w) (g+m) w:=D.up
 #[#[z.fZ,z.kn,z.k_,z.di,z.ku,z.b4,z.cp,z.dV,z.er,z.dW,z.ed,z.ee],d_.same j (bq _)]
theorem bm.ite{c:Prop}[Decidable c]{e:P aq}(z:c->bm b g n m w R x)(p:¬c->bm b g n m w R e):bm b g n m w R (if c then x else e):=by
 split
 .show z ‹_›
 .show p ‹_›
def DC{U:Int}(f:1<=U)(z:w.a2[(U-1).toNat]?=I t):dz U w=.ok t w:=oL f z
theorem bm.at{E:aq}(Q:x w=.ok E w)(p:bm b g n m w S (f E)):bm b g n m w S (x.G f):=λD C O=>by rw[b1 Q];show p D C O
theorem bm.dz{a:cr->P aC}(f:1<=i)(z:w.a2[(i-1).toNat]?=I t)(p:bm b g n m w S (a t)):bm b g n m w S ((dz i).G a):=.at (DC f z) p
theorem bm.to{E:aq}{eN:W}(Q:x w=.ok E eN)(r:d_ w eN)(a:fw (bd b w) g w->fw (bd b eN) g eN)(p:bm b g n m eN S (f E)):bm b g n m w S (x.G f):=λD C O=>by rw[b1 Q];show(p (a D) C O).tZ r
end
theorem acx{v l:Int}{q:List cr}(z:w.a2=.c v::.c l::.a (x::xs)::.a (y::jY)::q):rm w=.ok bL {rn w with a2:=.c (v+1)::.c (l+1)::.a ((x+1)::xs)::.a ((y+1)::jY)::q}:=by obtain⟨d,b,g,f,this,b4,cp,fz,dV,er,dW,ed,ee,e⟩:=w;obtain rfl:e=_:=z;rfl
theorem Q_{v l H T b d:Int}{q:List cr}(z:w.a2=.c v::.c l::.a (x::xs)::.a (y::jY)::q)(N:a'.a2=.c H::.c T::.a (b::xs)::.a (d::jY)::q):f9 w a':=by
 unfold f9;rw[z,N];intro i r A
 match i with
 |0=>show#[_,j,bR A▸.c _ _]
 |1=>show#[_,j,bR A▸.c _ _]
 |2=>show#[_,j,bR A▸.a _ _ j]
 |3=>show#[_,j,bR A▸.a _ _ j]
 |i+4=>show#[r,A,.same r]
def Cc(P:Int->Prop)(u:P 0)(f:P 1)(i:Int):P (i%2):=by
 obtain z|z:=(by omega:i%2=0\/i%2=1)<;>rw[z]
 .show u
 .show f
def Cd(P:Int->Prop)(u:P 0)(f:P 1)(o:P 2)(i:Int):P (i%3):=by
 obtain z|z|z:=(by omega:i%3=0\/i%3=1\/i%3=2)<;>rw[z]
 .show u
 .show f
 .show o
def u_(P:Int->Prop)(u:P 0)(f:P 1)(o:P 2)(M:P 3)(i:Int):P (i%4):=by
 obtain z|z|z|z:=(by omega:i%4=0\/i%4=1\/i%4=2\/i%4=3)<;>rw[z]
 .show u
 .show f
 .show o
 .show M
def Wb(P:Int->Prop)(u:P 0)(f:P 1)(o:P 2)(M:P 3)(b:P 4)(i:Int):P (i%5):=by
 obtain z|z|z|z|z:=(by omega:i%5=0\/i%5=1\/i%5=2\/i%5=3\/i%5=4)<;>rw[z]
 .show u
 .show f
 .show o
 .show M
 .show b
def yT{D:Str}(z:gp D=L)(p:b' D.cps.size 1=L):nv (.str D):=.inr #[D,j,z,cc p]
def abL(m:Int):nv (g6 [.str "x",.str "y",.none] (m%3)):=Cd (λi=>nv (g6 [.str "x",.str "y",.none] i)) (yT #[] #[]) (yT #[] #[]) (.inl j) m
theorem hP.t2{T:List cr}(z:hP T):(∃u,T[0]?=I (.c u))/\(∃u,T[1]?=I (.c u))/\(∃u,T[2]?=I (.a u))/\(∃u,T[3]?=I (.a u))/\6<=T.length:=by
 cases z with
 |mk z=>show#[#[_,j],#[_,j],#[_,j],#[_,j],c_ z 4]
def wM(z:hP w.a2):i2 w 1:=.inr #[kD _,z.t2.1]
def AB(z:hP w.a2):i2 w 2:=.inr #[by decide,z.t2.2.1]
def Ak(z:hP w.a2):jm w 3:=.inr #[by decide,z.t2.2.2.1]
def FD(z:hP w.a2):jm w 4:=.inr #[by decide,z.t2.2.2.2.1]
def sP(z:hP w.a2)(Y:Nat)(s:Y<6)(i:Int)(Q:i-1=Y)(J:1<=i):i3 w i:=.inr #[J,_,by rw[Q];show lU (fF s z.t2.2.2.2.2)]
def UP(z:hP w.a2):∀i,i2 w (nq [1,2,2,0] (i%4)):=u_ (λi=>i2 w (nq [1,2,2,0] i)) (wM z) (AB z) (AB z) (.inl j)
def UQ(z:hP w.a2):∀i,jm w (3+i%2):=Cc (λi=>jm w (3+i)) (Ak z) (FD z)
def UR(z:hP w.a2):∀i,i3 w (nq [5,1,6,0] (i%4)):=u_ (λi=>i3 w (nq [5,1,6,0] i)) (sP z 4 () _ j ()) (sP z 0 () _ j ()) (sP z 5 () _ j ()) (.inl j)
def JP{q:kK}{H:Nat->W->aC->Prop}{t:P aC}(x:vx q=L)(p:∀Y,Y.bp.length=w.bp.length+1->Y.a2=w.a2->fw (bd b w) g Y->b+n<=68->g+m<=100000->nX (b+n) (g+m) Y H (t Y)):bm b g n m w H ((lF q).G λa=>t):=λz C O=>by
 let Q:((lF q).G λa=>t) w=if 14<=w.bp.length then .exc {w with stop:=1} else t {w with bp:=w.bp++[q]}:=by
  unfold P.G lF;by_cases c:14<=w.bp.length
  .rw[aL c,aL c]
  .rw[aS c,aS c]
 rw[Q];by_cases c:14<=w.bp.length
 .rw[aL c];let z:fw (bd (b+n) w) (g+m) w:=z.up;show#[#[z.fZ,z.kn,z.k_,z.di,z.ku,z.b4,z.cp,z.dV,z.er,z.dW,z.ed,z.ee],d_.same j (bq _)]
 .rw[aS c];let f:({w with bp:=w.bp++[q]}:W).bp.length=w.bp.length+1:=cu;show nX.tZ (a':={w with bp:=w.bp++[q]}) (d_.same j (Nat.le.intro f.symm)) (p {w with bp:=w.bp++[q]} f j #[?_,λu T=>(d9.mp T).elim (z.kn u) λT=>fC.mp T▸x,z.k_,z.di,z.ku,z.b4,z.cp,z.dV,z.er,z.dW,z.ed,z.ee] C O);rw[f];show Nat.lt_of_not_le c
def aeJ{r:V}(A:dg 10 r=L):bm b g 0 0 w (λ_ Y U=>0<=U/\U<=14) (oP r):=by
 show JP A λH ab h f _ _=>?_;let M:bd b H=bd b w+bd b w:=FZ ab;let t:131072<=bd b w:=t4;let B:∀{i:Int},within (bd b w) i->within (bd b H) (i+1):=λz=>M▸z.add (ao (by decide:(1:Int).natAbs<=131072) t);let O:∀{i:Int},within (bd b w) i->within (bd b H) i:=λz=>ao z (M▸bv ..);let m:(H.bp.length:Int)<=14:=qc.mpr f.fZ;let C:∀ac,H.a2=ac->hP ac->∃J,rm H=.ok bL J/\J.bp=H.bp/\d_ H J/\fw (bd b H) g J:=λac Q ab=>by
  cases ab with
  | @mk v l u ae e af q x=>
   let k:=f.di;rw[Q] at k;obtain⟨ai,k⟩:=bg.mp k;obtain⟨E,k⟩:=bg.mp k;obtain⟨y,k⟩:=bg.mp k;obtain⟨D,k⟩:=bg.mp k;let aa:hP (.c (v+1)::.c (l+1)::.a ((u+1)::e)::.a ((ae+1)::af)::q):=.mk x;show#[{rn H with a2:=.c (v+1)::.c (l+1)::.a ((u+1)::e)::.a ((ae+1)::af)::q},acx Q,j,#[Q_ Q j,bq _],f.fZ,f.kn,?_,?_,aa,B f.b4,?_,UP aa _,UQ aa _,?_,UR aa _,abL _]
   .have:=f.k_;rw[Q] at this;show this
   .let n:∀{u:Int}{e:List Int},k9 (bd b w) (.a (u::e))->k9 (bd b H) (.a ((u+1)::e)):=λz=> #[z.1,bg.mpr #[B (z.2 _ (.head _)),λo aj=>O (z.2 o (.tail _ aj))]];show bg.mpr #[B ai,bg.mpr #[B E,bg.mpr #[n y,bg.mpr #[n D,λr A=>(k r A).aD (M▸bv ..)]]]]
   .show Cd (within (bd b H)) (gM () ()) (gM () ()) (gM () ()) _
   .split within _ (if(H.bp.length:Int)%2=0 then((0:Int),(0:Int)) else(1,(H.bp.length:Int))).2;split
    .show gM () ()
    .show gM (fG _) (fg m ())
 obtain⟨J,d,s,ag,Ai⟩:=C _ j f.ku;let ah:(rm.G λ_=>jK.G λU=>if U%7=6 then eY 4 else P.N U) H=(jK.G λU=>if U%7=6 then eY 4 else P.N U) J:=b1 d;let p:fw (bd b J) g J:=by rw[show bd b J=bd b H by unfold bd;rw[s]];show Ai
 show nX.tZ ag ?_;rw[ah];let T:bm b g 0 0 J (λ_ Y U=>0<=U/\U<=14) (jK.G λU=>if U%7=6 then eY 4 else P.N U):=.at j (.ite (λ_=>.throw) λ_=>.N #[fG _,s▸m]);show T p ‹_› ‹_›
def FL{p:Int}(z:fw (bd b w) g w)(a:rY p=L)(u:0<=i)(J:i<=131000):d3 (bd kh w) w p (ik p i):=by
 let e:=z.ku;let k:∀{i:Int},within (bd kh w) i->∃Y,V.int i= ↑Y/\within (bd kh w) Y:=λz=> #[_,j,z];let x:within (bd kh w) (-1):=ao (by decide:(-1:Int).natAbs<=131072) t4;let O:∀{P:W->Int->Prop}{i:Int},P w i->∃U,V.int i= ↑U/\P w U:=λz=> #[_,j,z];show(bg.mpr #[?_,bg.mpr #[?_,bg.mpr #[?_,bg.mpr #[?_,bg.mpr #[?_,bg.mpr #[?_,bg.mpr #[?_,bg.mpr #[?_,λc z=>nomatch z]]]]]]]]:∀p∈([1,7,12,13,16,18,19,20]:List Int),d3 (bd kh w) w p (ik p i)) p (g3 a)
 .show Cc (λi=>d3 (bd kh w) w 1 ↑i) (k (gM () ())) (k (gM () ())) i
 .show Wb (λi=>d3 (bd kh w) w 7 (g6 [↑0,↑1,↑0,↑2,↑(-1)] i)) (k (gM () ())) (k (gM () ())) (k (gM () ())) (k (gM () ())) (k x) i
 .show u_ (λi=>d3 (bd kh w) w 12 (g6 [↑5,↑1,↑0,↑6] i)) (O (P:=i3) (sP e 4 () _ j ())) (O (P:=i3) (sP e 0 () _ j ())) (O (P:=i3) (.inl j)) (O (P:=i3) (sP e 5 () _ j ())) i
 .show Cd (λi=>d3 (bd kh w) w 13 (g6 [.str "p",.str "q",.none] i)) (yT #[] #[]) (yT #[] #[]) (.inl j) i
 .show u_ (λi=>d3 (bd kh w) w 16 (g6 [↑1,↑2,↑0,↑1] i)) (O (P:=i2) (wM e)) (O (P:=i2) (AB e)) (O (P:=i2) (.inl j)) (O (P:=i2) (wM e)) i
 .show#[_,_,j]
 .show u_ (λi=>d3 (bd kh w) w 19 (g6 [↑3,↑4,↑3,↑0] i)) (O (P:=jm) (Ak e)) (O (P:=jm) (FD e)) (O (P:=jm) (Ak e)) (O (P:=jm) (.inl j)) i
 .show Cc (λY=>d3 (bd kh w) w 20 (g6 [cU 0 0,cU 1 i] Y)) #[_,_,j,gM () ()] #[_,_,j,gM u (fg J ())] i
end
section
variable{B b g dR:Nat}{w a':W}
theorem hP.app{T:List cr}(z:hP T):hP (T++[t]):=by
 cases z with
 |mk z=>show .mk (ao z (cu▸bv ..))
theorem Ks(A:k9 (bd b w) t):bm b g n (m+1) w (λd Y i=>1<=i/\Y.a2[(i-1).toNat]?=I t) (gg t):=λz C O=>by
 let c:b' w.a2.length sY=L:=j2.mpr (ao z.k_ (ao (bv ..) O));unfold gg;rw[c];let r:d_ w {w with a2:=w.a2++[t]}:= #[λi a f=> #[a,(eP (c5.mp f).1).trans f,.same a],bq _];let T:=lv (w:=w) (bv b n) (bq _);let o:fw (bd (b+n) w) g w:=z.aD T (bq _);show#[#[z.fZ,z.kn,?_,λa f=>(d9.mp f).elim (o.di a) λf=>fC.mp f▸A.aD T,z.ku.app,o.b4,o.cp,z.dV.aD r,z.er.aD r,o.dW,z.ed.aD r,z.ee],r,?_,?_]
 .split (w.a2++[t]).length<=g+(m+1);rw[cu];show i6 z.k_ (fE 1 m)
 .show agC (fG _)
 .split (w.a2++[t])[((w.a2.length:Int)+1-1).toNat]?=I t;rw[MV,rK,kE (bq _),p9];rfl
inductive kM(w:W):V->Prop
 |l {i:Int}:isIn [1,2] i=L->kM w (.J [↑0,↑i])
 |t {m i:Int} {t:cr} {x:Int}:1<=m->w.a2[(m-1).toNat]?=I t->t.get i=I x->kM w (.J [↑m,↑i])
def Io{g:Prop}[Decidable g]{d:Option aq}{u:aq}(z:(if g then d else au)=I u):g/\d=I u:=by
 by_cases Q:g
 .rw[aL Q] at z;show#[Q,z]
 .rw[aS Q] at z;cases z
def HV(z:(cr.c a).get i=I x):i=1/\I a=I x:=Io z
def Bm(z:(cr.a xs).get i=I x):1<=i/\xs[(i-1).toNat]?=I x:=Io z
def FF(z:1<=i):(cr.a xs).get i=xs[(i-1).toNat]? :=aL z
theorem S3(z:ij t hk)(O:t.get i=I x):∃e,hk.get i=I e:=by
 cases z with
 |c E y=>show#[y,aL (HV O).1]
 |a d G b=>show#[_,(FF (Bm O).1).trans (lU (b▸(c5.mp (Bm O).2).1))]
 |same=>show#[x,O]
theorem kM.aD(z:kM w v)(E:d_ w a'):kM a' v:=by
 cases z with
 |l z=>show .l z
 |t f M b=>obtain⟨V,O,g⟩:=E.ev _ _ M;obtain⟨e,B⟩:=S3 g b;show .t f O B
def DA(z:k9 B t)(O:t.get i=I x):within B x:=by
 cases t
 case c=>show bR (HV O).2▸z
 case a=>show z.2 x (ry (Bm O).2)
 all_goals cases O
def qV{m:Int}(z:w.a2[(m-1).toNat]?=I t):t∈w.a2:=ry z
def JE{m:Int}(z:1<=m):¬m=0:=λQ=>by rw[Q] at z;show cH z ()
theorem Zn(z:fw B g w)(D:kM w v):∃u,mw v w=.ok ↑u w/\within B u:=by
 cases D with
 | @l i a=>show(bg.mpr #[#[w.b4,j,z.b4],bg.mpr #[#[w.cp,j,z.cp],λc z=>nomatch z]]:∀i∈([1,2]:List Int),∃u,mw (.J [↑0,↑i]) w=.ok ↑u w/\within B u) i (g3 a)
 | @t m i r u f M b=>show#[u,?_,DA (z.di r (qV M)) b];split (if m=0 then((kW i).G c1).G λu=>P.N (V.int u) else(dz m).G λr=>(P.opt (r.get i)).G λu=>P.N (V.int u)) w=_;rw[aS (JE f),b1 (DC f M),b];rfl
set_option tactic.hygienic true in
theorem aaW(z:k9 B t)(O:t.get i=I x)(M:within B y):k9 B (t.set i y):=by
 cases t
 case c=>show M
 case a e=>show#[ao (ds fV) z.1,λo b=>(Ms b).elim (z.2 o) λQ=>Q▸M]
 all_goals cases O
def Lp(z:ij (.c a) t):∃y,t=.c y:=by
 cases z
 .show#[_,j]
 .show#[_,j]
theorem Lo{T:List Int}(z:ij (.a (a::T)) t):∃y p,t=.a (y::p):=by
 cases z with
 |a _ G c=>
  obtain _|_:=G
  .cases c
  .show#[_,_,j]
 |same=>show#[_,_,j]
theorem aa2{T:List cr}{a:cr}(D:ij t a)(z:hP T):∀Y,T[Y]?=I t->hP (T.set Y a):=by
 cases z with
 |mk x=>
  intro Y A
  match Y with
  |0=>obtain⟨_,rfl⟩:=Lp (bR A▸D);show .mk x
  |1=>obtain⟨_,rfl⟩:=Lp (bR A▸D);show .mk x
  |2=>obtain⟨_,_,rfl⟩:=Lo (bR A▸D);show .mk x
  |3=>obtain⟨_,_,rfl⟩:=Lo (bR A▸D);show .mk x
  |Y+4=>show .mk (ao x (ds fV.symm))
theorem aaU{m:Int}(z:fw B g w)(M:w.a2[(m-1).toNat]?=I t)(b:t.get i=I x)(c:within B y):fw B g {w with a2:=w.a2.set (m-1).toNat (t.set i y)}/\d_ w {w with a2:=w.a2.set (m-1).toNat (t.set i y)}:=by
 let r:d_ w {w with a2:=w.a2.set (m-1).toNat (t.set i y)}:= #[λY a f=>by
  by_cases Q:(m-1).toNat=Y
  .subst Q;show#[_,iF (c5.mp M).1,bR (M.symm.trans f)▸C' b]
  .show#[a,(ru Q).trans f,.same a],bq _]
 show#[#[z.fZ,z.kn,ao (ds fV) z.k_,λa f=>(Ms f).elim (z.di a) λQ=>Q▸aaW (z.di t (qV M)) b c,aa2 (C' b) z.ku _ M,z.b4,z.cp,z.dV.aD r,z.er.aD r,z.dW,z.ed.aD r,z.ee],r]
structure zI(B g:Nat)(w a':W):Prop where
 jX:fw B g a'
 tY:d_ w a'
 fZ:a'.bp.length=w.bp.length
theorem NZ(z:fw B g w)(D:kM w v):∃Y,mX v w=.ok bL Y/\zI (B+500) g w Y:=by
 let y:=z.aD (bv B 500) (bq g);let up:∀{i},within B i->within (B+500) (i+500):=λz=>z.add (bq _);cases D with
 | @l i a=>
  show(bg.mpr #[#[{w with b4:=w.b4+500},j,#[y.fZ,y.kn,y.k_,y.di,y.ku,up z.b4,y.cp,y.dV,y.er,y.dW,y.ed,y.ee],d_.same j (bq _),j],
   bg.mpr #[#[{w with cp:=w.cp+500},j,#[y.fZ,y.kn,y.k_,y.di,y.ku,y.b4,up z.cp,y.dV,y.er,y.dW,y.ed,y.ee],d_.same j (bq _),j],λc z=>nomatch z]]:∀i∈([1,2]:List Int),∃Y,mX (.J [↑0,↑i]) w=.ok bL Y/\zI (B+500) g w Y) i (g3 a)
 | @t m i r u f M b=>have e:=aaU y M b (up (DA (z.di r (qV M)) b));show#[_,?_,e.1,e.2,j];split (if m=0 then((kW i).G c1).G λu=>jp i (u+500) else(dz m).G λr=>(P.opt (r.get i)).G λu=>oG m (r.set i (u+500))) w=_;rw[aS (JE f),b1 (DC f M),b];rfl
inductive nN(w:W):List Bool->List V->Prop
 |nil:nN w [] []
 |ref {cC:List Bool} {v:V} {vs:List V}:kM w v->nN w cC vs->nN w (L::cC) (v::vs)
 |val {cC:List Bool} {v:V} {vs:List V}:dg 10 v=L->nN w cC vs->nN w (ak::cC) (v::vs)
theorem aci(z:nN w cC vs)(D:fw B g w):∃H,k' cC vs w=.ok H w/\hw 10 H=L:=by
 induction z with
 |nil=>show#[[],j,AP]
 |ref z _ a=>obtain⟨q,f,o⟩:=a;obtain⟨u,M,_⟩:=Zn D z;show#[↑u::q,(b1 M).trans (b1 f),o]
 |val z _ a=>obtain⟨q,f,o⟩:=a;show#[_::q,b1 f,a9 z o]
theorem N1(E:nN w cC vs):∀(H:W)(a:Nat),d_ w H->fw a g H->∃Y,pi cC vs H=.ok bL Y/\zI (a+500*cC.length) g H Y:=by
 induction E with
 |nil=>show λH a c z=> #[H,j,z,d_.refl H,j]
 | @ref cC B vs D _ b=>intro H a r z;obtain⟨J,f,t⟩:=NZ z (D.aD r);obtain⟨C,d,i⟩:=b J (a+500) (r.trans t.tY) t.jX;show#[C,(b1 f).trans d,i.jX.aD (by rw[oW];omega) (bq _),t.tY.trans i.tY,i.fZ.trans t.fZ]
 |val _ _ b=>intro H a r z;obtain⟨C,d,t⟩:=b H a r z;show#[C,d,t.jX.aD (e3 (nD _ (j3 _)) _) (bq _),t.tY,t.fZ]
def K_{id:Int}(E:nN w cC vs)(i:cC.length<=10)(u:0<=id)(k:id<=100000)(h:gp fT=L):bm b g 0 0 w (λn Y U=>0<=U/\U<=100014) (run fT id cC vs):=bm.jX λz=>by obtain⟨l,f,kQ⟩:=aci E z;show bm.at f (JP (a9 h kQ) λH c a e C O=>?_);obtain⟨J,d,t⟩:=N1 E H _ (d_.same a (c▸j3 _)) e;let M:bd b J=bd b w+bd b w:=FZ (t.fZ.trans c);let B:fw (bd b J) g J:=t.jX.aD (M▸e3 (ao (nD 500 i) (ao () t4)) _) (bq _);let T:bm b g 0 0 J (λn Y U=>0<=U/\U<=100014) (if id%9=8 then eY 3 else jK.G λm=>P.N (m+id)):=.ite (λn=>.throw) λn=>.at j (.N #[agq (fG _) u,Int.add_le_add (qc.mpr B.fZ) k]);show nX.tZ t.tY ((b1 d).symm▸T B C O)
def OD:((131072*2^82:Nat):Int)<pq:=bS #[]
def Dh(z:within (bd b w) i)(C:b<=68)(c:w.bp.length<=14):c7 i=L:=by let f:i.natAbs<=131072*2^82:=ao z (nD _ (afI () (i6 C c)));let o:(i.natAbs:Int)<pq:=nM (qc.mpr f) OD;show a9 (cW (ahg (nM (by rw[<-ahd];show agD) o))) (cW (nM agD o))
def Rq(z:within B x)(T:1<=B):within (B+B) (x.fdiv y):=by
 let f:=Int.natAbs_ediv_le_natAbs x y;rw[Int.fdiv_eq_ediv];split
 .rw[ahl];show ao f (ao z (bv ..))
 .show within.sub (ao f z) T
def KJ{A:Str}(d:pR A=L)(T:within (bd b w) x)(M:within (bd b w) y):bm b g (n+1) m w (λb w o=>within (bd b w) o) (lK A x y):=λD C O=>by let up:∀{o},within (bd b w+bd b w) o->within (bd (b+(n+1)) w) o:=λz=>ao (Oq▸z) (lv (e3 (fE 1 n) b) (bq _));let a:b<=68:=ao (bv ..) C;show(bg.mpr #[bm.N (up (T.add M)),bg.mpr #[bm.N (up (T.sub M)),bg.mpr #[.ite (c:=y=0) (λe=>.throw) λe=>by rw[Dh T a D.fZ,Dh M a D.fZ];show bm.N (up (Rq T (ao () t4))),λe z=>nomatch z]]]:∀A∈(["+","-","/"]:List Str),bm b g (n+1) m w (λb w o=>within (bd b w) o) (lK A x y)) A (g3 d) D C O
def Cz:∀A∈(["+","-","/"]:List Str),A≠"=="/\A≠"<":=by decide
def Vc{A:Str}{a o:Int}(c:pR A=L)(M:within (bd b w) y)(Q:within (bd b w) o):bm b g (n+1) m w (λb w B=>d3 (bd b w) w 20 B) (mi A (x,y) (a,o)):=by unfold mi;rw[aS (Cz A (g3 c)).1,aS (Cz A (g3 c)).2];show .ite (λd=>.N #[_,_,j,gM () ()]) λd=>?_;show bm.G (cw:=0) (dR:=0) (KJ c M Q) λd d d v=>by rw[aS (Cz A (g3 c)).2];show .N #[_,_,j,v]
def F2{g:Prop}[Decidable g]:d3 (bd b w) w 1 ↑(if g then 1 else 0):= #[_,j,by split<;>show gM () ()]
def U'{A:Str}{a o:Int}(d:sR A=L):bm b g n m w (λb w B=>d3 (bd b w) w 1 B) (mi A (x,y) (a,o)):=(bg.mpr #[.ite (c:=x=0\/a=0) (λe=>.N #[_,j,gM () ()]) λe=>.N F2,bg.mpr #[.N F2,λe z=>nomatch z]]:∀A∈(["<","=="]:List Str),bm b g n m w (λb w B=>d3 (bd b w) w 1 B) (mi A (x,y) (a,o))) A (g3 d)
theorem i2.o{U:Int}(z:i2 w U):i3 w U:=z.imp id λ#[E,u,y]=> #[E,_,y]
def vv{H:Nat->W->aC->Prop}{t:cr->P aC}{e:P aC}{d:cr->Prop}(z:i=0\/(1<=i/\∃r,d r/\w.a2[(i-1).toNat]?=I r))(u:i=0->bm b g n m w H e)(p:∀r,d r->1<=i->w.a2[(i-1).toNat]?=I r->bm b g n m w H (t r)):bm b g n m w H (if i=0 then e else(dz i).G t):=by show .ite u λQ=>?_;obtain⟨f,r,l,A⟩:=z.resolve_left Q;show .dz f A (p r l f A)
theorem i3.q(z:i3 w i):i=0\/(1<=i/\∃r,True/\w.a2[(i-1).toNat]?=I r):=z.imp id λ#[E,r,Q]=> #[E,r,trivial,Q]
theorem jm.q(z:jm w i):i=0\/(1<=i/\∃r,(∃e,r=.a e)/\w.a2[(i-1).toNat]?=I r):=z.imp id λ#[E,r,Q]=> #[E,_,#[r,j],Q]
structure zK(B:Nat)(w:W)(k:Int)(v:V):Prop where
 o:∃n,v= ↑n/\i3 w n
 i:k=7->∃n x,v= ↑n/\1<=n/\w.a2[(n-1).toNat]?=I (.n x)/\within B x
theorem F6{k:Int}(O:isIn [7,18,20] k=L)(x:d3 (bd b w) w k v):bm b g n (m+1) w (λb w v=>zK (bd b w) w k v) (r6 k v):=by
 let du:∀{k:Int}{t:cr},k9 (bd b w) t->(∀b w i,k=7->1<=i->w.a2[(i-1).toNat]?=I t->k9 (bd b w) t->∃n u,V.int i= ↑n/\1<=n/\w.a2[(n-1).toNat]?=I (.n u)/\within (bd b w) u)->bm b g n (m+1) w (λb w v=>zK (bd b w) w k v) ((gg t).G λn=>P.N (V.int n)):=λA T=>bm.G (cw:=0) (dR:=0) (Ks A) λi H r J=>.jX λa=>.N #[#[_,j,.inr #[J.1,_,J.2]],λB=>T _ _ _ B J.1 J.2 (a.di _ (qV J.2))];show(bg.mpr #[λx=>?_,bg.mpr #[λx=>?_,bg.mpr #[λx=>?_,λh z=>nomatch z]]]:∀k∈([7,18,20]:List Int),d3 (bd b w) w k v->bm b g n (m+1) w (λb w v=>zK (bd b w) w k v) (r6 k v)) k (g3 O) x
 .obtain⟨i,rfl,J⟩:=x;show du (t:=.n i) J λb w Y h f o M=> #[_,_,j,f,o,M]
 .obtain⟨u,e,rfl⟩:=x;show du (t:=.s u e) trivial λh h h z=>nomatch z
 .obtain⟨u,e,rfl,d⟩:=x;show .ite (c:=u=0) (λh=>.N #[#[0,j,.inl j],λz=>nomatch z]) λh=>du (t:=.n e) d λh h h z=>nomatch z
set_option tactic.hygienic true in
theorem Ma{p:Int}(O:isIn [7,18] p=L)(v:i3 w i):bm b g n m w (λb w B=>d3 (bd b w) w p B) (te p i):=
 .jX λD=>vv v.q (λa=>.throw) λr a f A=>by
  let y:=λn=>(lv (w:=w) (bv b n) (bq _));show(bg.mpr #[?_,bg.mpr #[?_,λa z=>nomatch z]]:∀p∈([7,18]:List Int),bm b g n m w (λb w B=>d3 (bd b w) w p B) (match(generalizing:=false) r with|.n B=>if p=18 then eY 7 else P.N ↑B|.s u e=>if p=18 then P.N (cU u e) else eY 7|_=>eY 7)) p (g3 O)
  .cases r
   case n B=>show .N #[_,j,(D.di (.n B) (qV A)).aD (y n)]
   all_goals show .throw
  .cases r
   case s=>show .N #[_,_,j]
   all_goals show .throw
end
section
variable{B b g dR:Nat}{w a':W}
def T8(z:bP):Bool:=cA z.ctorIdx 6||cA z.ctorIdx 22
def q3(z:bP):Nat:=(T8 z).toNat
mutual
noncomputable def fK:ah->Nat
 |.mk h aa=>lz aa+q3 h
noncomputable def lz:List ah->Nat
 |[]=>0
 |e::r=>fK e+lz r
end
mutual
noncomputable def jV:ah->Nat
 |.mk _ aa=>nw aa+1
noncomputable def nw:List ah->Nat
 |[]=>0
 |e::r=>jV e+nw r
end
def qL(Q:ah):Int:=if hB Q.aM then 130 else Q.kind
theorem IJ(z:e.kind≠13):qL e=e.kind:=by
 obtain⟨G,H⟩:=e;cases G
 case bV=>cases z j
 all_goals rfl
def e4(w:Nat)(A:W)(Q:ah)(B:V):Prop:=if bG Q.aM=L then kM A B else d3 w A (qL Q) B
abbrev tS(Q:ah):Nat->W->V->Prop:=λb w v=>e4 (bd b w) w Q v
abbrev nT(k:Int):Nat->W->V->Prop:=λb w v=>d3 (bd b w) w k v
def gD(Q:ah):Prop:=∀b g w,bm b g (fK Q) (jV Q) w (tS Q) (eval Q)
theorem e4.aD(z:e4 B w e v)(T:B<=H)(E:d_ w a'):e4 H a' e v:=oA z (λz=>z.aD E) λz=>z.aD T E
theorem e4.val(z:e4 B w e v)(p:bG e.aM=ak):d3 B w (qL e) v:=by unfold e4 at z;rw[p] at z;show z
theorem e4.aQ{p:Int}(z:e4 B w e v)(O: ↥(e.kind=p)=L)(r:p≠21)(q:p≠13):d3 B w p v:=by have:=z.val (hD O r);rw[IJ (ol O▸q),ol O] at this;show this
theorem e4.yO(z:e4 B w e v)(p:bG e.aM=L):kM w v:=by unfold e4 at z;rw[p] at z;show z
theorem e4.of(p:bG e.aM=ak)(z:d3 B w (qL e) v):e4 B w e v:=by unfold e4;rw[p];show z
theorem e4.plain(p:bG h=ak)(g:hB h=ak)(u:d3 B w h.kind v):e4 B w (.mk h aa) v:=.of p (by
 unfold qL;split d3 B w (if hB h then 130 else h.kind) v;rw[g];show u)
theorem e4.place{a:List ah}(z:kM w v):e4 B w (.mk .ref a) v:=z
def ha(w:Nat)(A:W):List ah->List V->Prop
 |[],[]=>True
 |e::aa,v::vs=>e4 w A e v/\ha w A aa vs
 |_,_=>False
section
variable{P:List V->Prop}(vs:List V)
@[elab_as_elim] theorem vI(z:ha B w [] vs)(p:P []):P vs:=by
 obtain _|_:=vs
 .show p
 .cases z
@[elab_as_elim] theorem y2{Q:ah}{H:List ah}(z:ha B w (Q::H) vs)(p:∀a vs,e4 B w Q a->ha B w H vs->P (a::vs)):P vs:=by
 obtain _|⟨a,vs⟩:=vs
 .cases z
 .show p a vs z.1 z.2
@[elab_as_elim] theorem y1{Q:ah}(z:ha B w [Q] vs)(p:∀a,e4 B w Q a->P [a]):P vs:=y2 vs z λa vs f z=>vI vs z (p a f)
@[elab_as_elim] theorem Md{Q t:ah}(z:ha B w [Q,t] vs)(p:∀b a,e4 B w Q b->e4 B w t a->P [b,a]):P vs:=y2 vs z λb vs f z=>y1 vs z λa o=>p b a f o
end
theorem ha.al(z:∀Q∈aa,t1 Q=L):ha B w aa vs->nN w (aa.map λQ=>bG Q.aM) vs:=by
 induction aa generalizing vs with
 |nil=>show λz=>vI vs z .nil
 |cons Q aa a=>
  show λy=>y2 vs y λb vs f o=>?_;let r:=a (λQ V=>z Q (.tail _ V)) o;let E:=z Q (.head _);rw[th];rcases l:bG Q.aM with _|_
  .show .val (f.val l).Gq r
  .show .ref (f.yO l) r
theorem w':∀(H:List ah),(∀Q∈H,gD Q)->∀y s A,bm y s (lz H) (nw H) A (λy A O=>ha (bd y A) A H O) (cR H):=by
 intro q
 induction q with
 |nil=>intro _ y s A;show .N trivial
 |cons Q q w=>intro U y s A;show(U Q (.head _) y s A).G λB a r x=>bm.G (cw:=0) (dR:=0) (w (λQ V=>U Q (.tail _ V)) _ _ a) λO J e b=>.N #[x.aD (lv (bv ..) e.fZ) e,b]
theorem yQ{Y:Int}(v:jm w i\/i2 w i/\Y=1):bm b g n m w (λb w x=>within (bd b w) x/\kM w (.J [↑i,↑Y])) (gN i Y):=.jX λD=>by
 let du:∀{r:cr}{x:Int},1<=i->w.a2[(i-1).toNat]?=I r->r.get Y=I x->bm b g n m w (λb w x=>within (bd b w) x/\kM w (.J [↑i,↑Y])) (P.opt (r.get Y)):=λf A O=>by rw[O];show .N #[(DA (D.di _ (qV A)) O).aD (lv (bv ..) (bq _)),.t f A O]
 show .ite (λd=>.throw) λu=>.ite (λd=>.throw) λf=>?_;obtain v|⟨v,rfl⟩:=v
 .obtain⟨o,e,A⟩:=v.resolve_left u;show .dz o A (.ite (λd=>.throw) λM=>?_);let c:(cr.a e).cV.length=e.length+1:=aN (· +1) (fU _);rw[c] at M;show du o A ((FF (rI.mp f)).trans (lU ((v_ (ahk (rI.mp f))).mpr (Int.sub_right_lt_of_lt_add (EB.mp M)))))
 .obtain⟨o,x,A⟩:=v.resolve_left u;show .dz o A (.ite (λd=>.throw) λd=>du (x:=x) o A j)
def sw{T:Nat}(z:within (bd b w) i):within (bd (b+T) w) i:=z.aD (lv (bv ..) (bq _))
set_option tactic.hygienic true in
theorem PW{p s a:Int}(O:wV p s a=L)(x:d3 (bd b w) w a v):bm b g n (m+1) w (nT p) (p6 a p s v):=by
 let d:∀{a:Int},isIn [7,18,20] a=L->d3 (bd b w) w a v->bm b g n (m+1) w (nT 12) (r6 a v):=λz x=>(F6 z x).imp λk k z=>z.o;show(bg.mpr #[d j,bg.mpr #[d j,bg.mpr #[d j,bg.mpr #[λx=>?_,bg.mpr #[λx=>?_,bg.mpr #[λx=>?_,bg.mpr #[λx=>?_,bg.mpr #[λx=>?_,
  bg.mpr #[λx=>?_,bg.mpr #[λx=>?_,bg.mpr #[λx=>?_,bg.mpr #[λx=>?_,λk z=>nomatch z]]]]]]]]]]]]:∀h∈wW,d3 (bd b w) w h.2.2 v->bm b g n (m+1) w (nT h.1) (p6 h.2.2 h.1 h.2.1 v)) _ (g3 O) x
 .obtain⟨i,rfl,J⟩:=x;show .N #[i,j,J.o]
 .obtain⟨i,rfl,J⟩:=x;show .N #[i,j,J]
 .obtain⟨i,rfl,J⟩:=x;show Ma j J
 .obtain⟨i,rfl,J⟩:=x;show Ma j J
 .obtain⟨i,rfl,J⟩:=x;show .N #[_,_,j,sw J]
 .obtain⟨u,e,rfl,M⟩:=x;show .ite (c:=u=0) (λk=>.throw) λk=>.N #[e,j,sw M]
 .obtain⟨i,rfl,J⟩:=x;show .N #[i,j,sw J]
 .obtain⟨i,rfl,J⟩:=x;show .N #[i,j,sw J]
 .obtain⟨i,rfl,J⟩:=x;show vv J.q (λk=>.N #[0,j,.inl j]) λr k f A=>?_;cases r
  case c u=>show .N #[i,j,.inr #[f,u,A]]
  all_goals show .throw
def U7{p:Int}(z:fw (bd b w) g w)(O:uX p i=L):∃B,kW i w=.ok B w/\d3 (bd b w) w p B:=(bg.mpr #[#[_,j,_,j,z.b4],bg.mpr #[#[_,j,_,j,z.cp],bg.mpr #[#[_,j,_,_,j],bg.mpr #[#[_,j,_,j,z.dV],bg.mpr #[#[_,j,_,j,z.er],bg.mpr #[#[_,j,_,_,j,z.dW],bg.mpr #[#[_,j,_,j,z.ed],bg.mpr #[#[_,j,z.ee],λa z=>nomatch z]]]]]]]]:∀v∈([(7,1),(7,2),(18,3),(16,4),(19,5),(20,6),(12,7),(13,8)]:List (Int×Int)),∃B,kW v.2 w=.ok B w/\d3 (bd b w) w v.1 B) _ (g3 O)
section
variable{R:Nat->W->aC->Prop}{p:P aC}
def aaQ(J:isIn [1,2] i=L)(T:within (bd b w) x)(a:∀Y,bd b Y=bd b w->bm b g n m Y R p):bm b g n m w R ((jp i x).G λc=>p):=
 (bg.mpr #[bm.to (eN:={w with b4:=x}) j (d_.same j (bq _)) (λz=> #[z.fZ,z.kn,z.k_,z.di,z.ku,T,z.cp,z.dV,z.er,z.dW,z.ed,z.ee]) (a _ j),
  bg.mpr #[bm.to (eN:={w with cp:=x}) j (d_.same j (bq _)) (λz=> #[z.fZ,z.kn,z.k_,z.di,z.ku,z.b4,T,z.dV,z.er,z.dW,z.ed,z.ee]) (a _ j),λc z=>nomatch z]]:∀i∈([1,2]:List Int),bm b g n m w R ((jp i x).G λc=>p)) i (g3 J)
def aaP(T:i2 w x)(a:∀Y,bm b g n m Y R p):bm b g n m w R ((jp 4 x).G λc=>p):=bm.to (eN:={w with dV:=x}) j (d_.same j (bq _)) (λz=> #[z.fZ,z.kn,z.k_,z.di,z.ku,z.b4,z.cp,T,z.er,z.dW,z.ed,z.ee]) (a _)
end
end
section
variable{B b g dR:Nat}{w a':W}
theorem TR:∀T:List Int,mf (T.map .int)=P.N T:=by
 intro q
 induction q with
 |nil=>show j
 |cons i q w=>show(aN (λv:P (List Int)=>v.G λT=>P.N (i::T)) (w):_)
theorem ha.ints:∀{H:List ah}{O:List V},(∀Q∈H,↥(Q.kind=7)=L)->ha B w H O->∃T:List Int,O=T.map .int/\T.length=H.length/\∀i∈T,within B i:=by
 intro H
 induction H with
 |nil=>intro O _ z;show vI O z ?_;show#[[],j,j,λe z=>nomatch z]
 |cons Q H c=>intro O p z;show y2 O z ?_;intro d O f o;obtain⟨T,rfl,M,b⟩:=c (λQ a=>p Q (.tail _ a)) o;obtain⟨i,rfl,J⟩:=f.aQ (p Q (.head _)) () ();show#[i::T,j,aN (· +1) M,bg.mpr #[J,b]]
def vm{p:Int}(A:k9 (bd b w) t)(a:∀b w i,1<=i->w.a2[(i-1).toNat]?=I t->d3 (bd b w) w p ↑i):bm b g n (m+1) w (nT p) ((gg t).G λY=>P.N ↑Y):=bm.G (cw:=0) (dR:=0) (Ks A) λY H c s=>.N (a _ _ _ s.1 s.2)
section
variable{B:Nat}{w:W}{P:List ah->List V->Prop}(aa:List ah)(vs:List V)
@[elab_as_elim] theorem BO{a:Bool}(u:(match aa with|[]=>a|_=>ak)=L)(y:ha B w aa vs)(z:a=L->P [] []):P aa vs:=uL (P:=λaa=>ha B w aa vs->P aa vs) aa u (λu y=>vI vs y (z u)) y
@[elab_as_elim] theorem om{t:ah->Bool}(u:(match aa with|[a]=>t a|_=>ak)=L)(y:ha B w aa vs)(z:∀a b,t a=L->e4 B w a b->P [a] [b]):P aa vs:=kl (P:=λaa=>ha B w aa vs->P aa vs) aa u (λa u y=>y1 vs y λb=>z a b u) y
@[elab_as_elim] theorem BP{t:ah->ah->Bool}(u:(match aa with|[a,b]=>t a b|_=>ak)=L)(y:ha B w aa vs)(z:∀a b c d,t a b=L->e4 B w a c->e4 B w b d->P [a,b] [c,d]):P aa vs:=uM (P:=λaa=>ha B w aa vs->P aa vs) aa u (λa b u y=>Md vs y λc d=>z a b c d u) y
end
set_option tactic.hygienic true in
theorem N9(ap:iZ h=L)(ah:aa.length<=10)(u:jr h aa=L)(y:ha (bd b w) w aa vs):bm b g (q3 h) 1 w (nT h.kind) (iR h aa vs):=by
 let k:∀{b:Nat}{w:W}{i:Int},within (bd b w) i->d3 (bd b w) w 7 ↑i:=λh=> #[_,j,h];cases h with
 |const p B=>
  show BO aa vs u y λu=>?_;cases B with
  |int i=>rw[show bP.kind (.const p ↑i)=7 from bS (aw (aw u).1).1];show .N (k (gM (bS (aw (aw u).1).2) (fg (bS (aw u).2) ())))
  |none=>rw[show bP.kind (.const p .none)=14 from bS u];show .N j
  |_=>cases u
 |aj p i=>show BO aa vs u y λu=>?_;show .jX λD=>?_;obtain⟨B,Q,x⟩:=U7 D u;show .ok Q (x.aD (lv (bv ..) (bq _)) (d_.refl _))
 |this p=>show BO aa vs u y λu=>?_;show .jX λD=>?_;show(bg.mpr #[.N #[1,j,wM D.ku],bg.mpr #[.ok j #[_,_,j],λ_ h=>nomatch h]]:∀p∈([16,18]:List Int),bm b g 0 1 w (nT p) (if p=16 then P.N ↑1 else DE)) p ?_;show(h9 u).elim (λQ=>bS Q▸.head _) λQ=>bS Q▸.tail _ (.head _)
 |cb p=>show om aa vs u y λE B u x=>?_;show bm.G (cw:=0) (dR:=1) (aeJ (x.val (ve (aw u).2)).Gq) λi H _ J=>.jX λD=>.N (FL D (aw u).1 J.1 (fg J.2 ()))
 |call p id=>have af:=aw (aw (aw u).1).2;show bm.G (cw:=0) (dR:=1) (K_ (ha.al (j'.mp (aw u).2) y) (by rw[fU];show ah) (bS af.1) (bS af.2) #[]) λi H _ J=>.jX λD=>.N (FL D (aw (aw u).1).1 J.1 (fg J.2 ()))
 |bin aq=>show BP aa vs u y λE ag an B u ae x=>?_;obtain⟨i,rfl,J⟩:=ae.aQ (aw (aw u).1).2 () ();obtain⟨Y,rfl,s⟩:=x.aQ (aw u).2 () ();show bm.G (n:=1) (cw:=0) (m:=0) (dR:=1) (KJ (n:=0) (aw (aw u).1).1 J s) λab C _ ac=>.N (k ac)
 |lift p aq=>
  show BP aa vs u y λE ag an B u ae x=>?_;obtain⟨i,az,rfl,J⟩:=ae.aQ (aw (aw u).1).2 () ();obtain⟨Y,aA,rfl,s⟩:=x.aQ (aw u).2 () ();obtain e|e:=h9 (aw (aw u).1).1
  .obtain rfl:p=20:=bS (aw e).1;show Vc (n:=0) (aw e).2 J s
  .obtain rfl:p=1:=bS (aw e).1;show U' (aw e).2
 |len=>show om aa vs u y λE B u x=>?_;obtain⟨i,rfl,J⟩:=x.aQ u () ();show .jX λD=>vv J.q (λ_=>.throw) λr A z Q=>?_;obtain⟨am,rfl⟩:=A;let ay:=(D.di (.a am) (qV Q)).1;show .N (k ?_);rw[show(cr.a am).cV.length=am.length+1 from aN (· +1) (fU _)];show gM () ()
 |dB=>show om aa vs u y λE B u x=>?_;obtain⟨i,rfl,J⟩:=x.aQ u () ();show bm.G (n:=0) (cw:=0) (m:=0) (dR:=1) (yQ (.inr #[J,j])) λe ai _ M=>.N (k M.1)
 |c8=>show BP aa vs u y λE ag an B u ae x=>?_;obtain⟨i,rfl,J⟩:=ae.aQ (aw u).1 () ();obtain⟨Y,rfl,s⟩:=x.aQ (aw u).2 () ();show bm.G (n:=0) (cw:=0) (m:=0) (dR:=1) (yQ (.inl J)) λe ai _ M=>.N (k M.1)
 |ew p av aB=>
  show om aa vs u y λE B u x=>?_;obtain u|u:=h9 u
  .let ag:=Gk _ (g3 u);let x:=x.val (x_ ag.2.2.1);rw[IJ (qJ (l:=wW.map λar=>ar.2.2) (wa.mpr #[_,afn (g3 u),cW j]) j)] at x;show PW u x
  .obtain rfl:p=20:=bS (aw (aw u).1).1;obtain rfl:av=8:=bS (aw (aw u).1).2;show .N #[_,_,j,gM () ()]
 |dJ i=>show om aa vs u y λE B u x=>?_;obtain⟨e,rfl,M⟩:=x.aQ (aw u).2 () ();show aaQ ((h9 (aw u).1).elim (λQ=>(bS Q).symm▸j) λQ=>(bS Q).symm▸j) M λai Q=>.N (k (Q▸M))
 |new p id=>have af:=aw (aw (aw u).1).2;show bm.G (n:=0) (cw:=0) (m:=0) (dR:=1) (K_ (ha.al (j'.mp (aw u).2) y) (by rw[fU];show ah) (bS af.1) (bS af.2) #[]) λi H _ J=>?_;let d:p∈([16,18]:List Int):=(h9 (aw (aw u).1).1).elim (λQ=>bS Q▸.head _) λQ=>bS Q▸.tail _ (.head _);show(bg.mpr #[vm (t:=.c i) (gM J.1 (fg J.2 ())) λ_ _ _ z o=> #[_,j,.inr #[z,_,o]],bg.mpr #[.N #[_,_,j],λ_ h=>nomatch h]]:∀p∈([16,18]:List Int),bm (b+0) (g+0) 0 1 H (nT p) (if p=16 then(gg (.c i)).G λY=>P.N ↑Y else P.N (cU i id))) p d
 |k4=>show om aa vs u y λE B u x=>?_;obtain⟨i,rfl,J⟩:=x.aQ u () ();show .ite (c:=i<0\/9<i) (λ_=>.throw) λax=>vm (t:=.a (lV i.toNat 0)) #[by rw[afk];omega,λab ac=>(List.mem_replicate.mp ac).2▸gM () ()] λ_ _ _ z o=> #[_,j,.inr #[z,_,o]]
 |iS=>obtain⟨T,rfl,z,o⟩:=ha.ints (j'.mp u) y;split bm _ _ _ _ _ _ ((mf (T.map .int)).G λT=>(gg (.a T)).G λY=>P.N (V.int Y));rw[TR];show vm (t:=.a T) #[z▸ao ah (),o] λ_ _ _ z o=> #[_,j,.inr #[z,_,o]]
 |is i=>
  show om aa vs u y λE B u x=>?_;obtain⟨Y,rfl,s⟩:=x.aQ (aw u).2 () ();let O:∀{b:Nat}{w:W}{i:Int},0<=i->i<=131072->d3 (bd b w) w 1 ↑i:=λh p=> #[_,j,gM h p];show vv s.q (λ_=>.N (O () ())) λr _ z A=>?_;cases r
  case c ab=>show(bg.mpr #[.N (O () ()),bg.mpr #[aaP (.inr #[z,ab,A]) λai=>.N (O () ()),λ_ h=>nomatch h]]:∀i∈([0,4]:List Int),bm b g 0 1 w (nT 1) (if i=0 then P.N (V.int 1) else(jp i Y).G λ_=>P.N (V.int 1))) i ?_;show(h9 (aw u).1).elim (λQ=>bS Q▸.head _) λQ=>bS Q▸.tail _ (.head _)
  all_goals show .N (O () ())
 |as=>
  show om aa vs u y λE B u x=>?_;obtain⟨Y,rfl,s⟩:=x.aQ u () ();show vv s.q (λ_=>.N #[0,j,.inl j]) λr _ z A=>?_;cases r
  case c ab=>show .N #[Y,j,.inr #[z,ab,A]]
  all_goals show .N #[0,j,.inl j]
 |hg id=>
  obtain _|⟨E,_|_⟩:=aa
  .show vI vs y ?_;show vm (t:=.f (-1) id) trivial λ_ _ _ z o=> #[_,j,.inr #[z,_,o]]
  .show y1 vs y λB x=>?_;let v:∃U,B= ↑U:=(h9 (aw u).2).elim (λe=>(x.aQ e () ()).elim λU h=> #[U,h.1]) λe=>(x.aQ e () ()).elim λU h=> #[U,h.1];obtain⟨i,rfl⟩:=v;show .ite (c:=i=0) (λ_=>.throw) λ_=>vm (t:=.f i id) trivial λ_ _ _ z o=> #[_,j,.inr #[z,_,o]]
  .cases u
 |ix=>
  show om aa vs u y λE B u x=>?_;obtain⟨e,ab,rfl,ac⟩:=x.aQ u () ();show .N (show nT 20 _ w (if e=0 then cU e ab else cU 1 (-ab)) from ?_);by_cases Q:e=0
  .rw[aL Q];show#[_,_,j,sw ac]
  .rw[aS Q];show#[_,_,j,sw (ao (ds (ahd ab)) ac)]
 |slot=>cases u
 |_=>cases ap
theorem PS{p:Int}(u:jr (.bO p) aa=L)(U:∀Q∈aa,gD Q):gD (.mk (.bO p) aa):=by revert U;show IG aa u ?_;intro r E g u U y s A;let O:=(aw (aw (aw (aw u).1).1).1).2;let du:∀{e:ah}{y s:Nat}{A:W},gD e-> ↥(e.kind=p)=L->fK e<=fK E+(fK g+0)->jV e<=jV E+(jV g+0)->bm y s (fK E+(fK g+0)) (jV E+(jV g+0)+1) A (tS (.mk (.bO p) [r,E,g])) (eval e):=λb M b4 cp=>((b _ _ _).up b4 (lW cp) λY B x=>x.aD (lv (e3 b4 _) (bq _)) (d_.refl _)).imp λY B x=>.plain j j (x.aQ M (qJ O j) (rM (Co (aw (aw (aw u).1).1).2):p≠13));show bm.G (n:=fK r) (m:=jV r) (cw:=fK E+(fK g+0)) (dR:=jV E+(jV g+0)+1) (U r (.head _) y s A) λa H d f=>?_;obtain⟨i,rfl,_⟩:=f.aQ (aw (aw (aw (aw u).1).1).1).1 () ();show .ite (c:=i=1) (λd=>du (U E (.tail _ (.head _))) (aw (aw u).1).2 (bv ..) (bv ..)) λd=>du (U g (.tail _ (.tail _ (.head _)))) (aw u).2 (fE ..) (fE ..)
def aaG{p:Int}(u:jr (.seq p) aa=L)(U:∀Q∈aa,gD Q):gD (.mk (.seq p) aa):=by revert U;show IR aa u ?_;intro B b u U y s A;let O:=(aw (aw (aw u).1).1).2;let T:bm y s (lz b+fK B) (nw b+(jV B+1)) A (tS (.mk (.seq p) (B::b))) (eval (.mk (.seq p) (B::b))):=bm.G (w' b (λQ V=>U Q (.tail _ V)) y s A) λc H c c=>((U B (.head _) _ _ _).up (bq _) (j3 _) λY a f=>f).imp λY a f=>.plain j j (f.aQ (aw (aw (aw u).1).1).1 (qJ O j) (rM (Co (aw (aw u).1).2):p≠13));rw[j1 (lz b),<-fD,j1 (nw b)] at T;show T
theorem Zu(u:jr .ref aa=L)(d:∀Q∈aa,∀p∈Q.dK,gD p)(T:∀Q∈aa,la Q=L):gD (.mk .ref aa):=by
 revert d T;show kl aa u ?_;intro v u d T y s A;replace d:=d v (.head _);replace T:=T v (.head _);obtain⟨c,h⟩:=v;revert d T;show Kc c h u (λp i u r r=>.N (e4.place (.l ((h9 (aw u).2).elim (λQ=>(bS Q).symm▸j) λQ=>(bS Q).symm▸j)))) (λq u d r=>?_) λE g d T=>?_
 .show bm.G (n:=lz [q]) (m:=nw [q]) (cw:=0) (dR:=1+0+1) (w' [q] d y s A) ?_;intro O H _ b;show y1 O b ?_;intro B x;obtain⟨i,rfl,J⟩:=x.aQ u () ();show bm.G (S:=tS (.mk .ref _)) (n:=0) (cw:=0) (m:=0) (dR:=2) (yQ (.inr #[J,j])) λe k r M=>.N (e4.place M.2)
 .let u:(↥(E.kind=19)&& ↥(g.kind=7))=L:=(vH T).1;show bm.G (n:=lz [E,g]) (m:=nw [E,g]) (cw:=0) (dR:=1+0+1) (w' [E,g] d y s A) ?_;intro O H _ b;show Md O b ?_;intro a B f x;obtain⟨i,rfl,J⟩:=f.aQ (aw u).1 () ();obtain⟨Y,rfl,o⟩:=x.aQ (aw u).2 () ();show bm.G (S:=tS (.mk .ref _)) (n:=0) (cw:=0) (m:=0) (dR:=2) (yQ (.inl J)) λe k r M=>.N (e4.place M.2)
def XQ(t:iZ h=L)(x:bG h=ak)(a:hB h=ak)(c:aa.length<=10)(u:jr h aa=L)(U:∀Q∈aa,gD Q):gD (.mk h aa):=λy s A=>by rw[lw _ t];show bm.G (w' aa U y s A) λO H d b=>(N9 t c u b).imp λd d h=>.plain x a h
end
section
variable{B b g:Nat}{w a':W}
def Pr(g:Char):g.toNat<1114112:=by let z:g.val.toNat<55296\/57343<g.val.toNat/\g.val.toNat<1114112:=g.valid;split g.val.toNat<1114112;omega
def abO(D:String):gp (j6 D)=L:=by rw[Str.ofString_eq_toList];split ((D.toList.map Char.toNat).toArray.all λu=> ↥(u<1114112))=L;rw[<-Array.all_toList];simp only[ahm,j'];intro g _;show cW (Pr g)
def abN{D r:Str}(z:gp D=L)(p:gp r=L):gp (D++r)=L:=by split ((D.cps++r.cps).all λu=> ↥(u<1114112))=L;rw[Array.all_append];show dj.mpr #[z,p]
def aa7{D r:Str}:(D++r).cps.size=D.cps.size+r.cps.size:=ahh
def OB:pq<=10^30:=bS #[]
def TV(z:c7 i=L):(j6 (toString i)).cps.size<=100:=by
 unfold c7 at z;rw[dj] at z;let f:=bS z.1;let o:=bS z.2;let M:=OB;have:i.natAbs<10^30:=by
  have:(i.natAbs:Int)<10^30:=by
   let v: -(10^30:Int)<i:=nM (Int.neg_le_neg M) f;let N:i<(10^30:Int):=v9 o M;obtain Q|Q:=ahc i
   .rw[<-Q];show N
   .have:(i.natAbs:Int)= -i:=by omega
    rw[this];show ahg v
  exact_mod_cast this
 let g:=int_text_length_le10 (k:=30) () this;let U:(j6 (toString i)).cps.size=(toString i).length:=PySem.ofString_length (toString i);omega
theorem nv.fQ(x:nv v):∃D,fQ 13 v=P.N D/\gp D=L/\D.cps.size<=100:=by
 obtain rfl|⟨D,rfl,f,o⟩:=x
 .show#["",j,#[],cc #[]]
 .show#[D,?_,f,ao o ()];split (if aU D.cps.size then P.N D else P.ab)=_;rw[g0 (ao o ())];rfl
theorem Xp{Q:ah}(U:gD Q)(d:∀p∈Q.dK,gD p)(u:sT Q=L):bm b g (fK Q) (jV Q) w (λv v h=>gp h=L/\h.cps.size<=100) ((eval Q).G (fQ Q.kind)):=by
 obtain u|u:=h9 u
 .show bm.G (cw:=0) (dR:=0) (U b g w) λB H v x=>?_;let x:=x.val (hD (aw u).1 ());rw[show qL Q=13 by unfold qL;rw[Co (aw u).2,ol (aw u).1];rfl] at x;obtain⟨h,f,o⟩:=nv.fQ x;rw[ol (aw u).1,f];show .N o
 .clear U;revert d;show F5 Q u λp c t T u=>?_;show kl T u λE u d=>?_;obtain rfl:p=12:=bS (aw (aw u).1).1;obtain rfl:c=4:=bS (aw (aw u).1).2;rw[lw _ j,ue,d6];show bm.G (n:=fK E) (m:=jV E) (cw:=0) (dR:=1) (d E (.head _) b g w) λB H v x=>?_;split bm _ _ _ _ _ _ ((p6 E.kind 12 4 B).G _);rw[ol (aw u).2];show bm.G (n:=0) (m:=0+1) (cw:=0) (dR:=0) (F6 (k:=7) j (x.aQ (aw u).2 () ())) λa J v r=>?_;obtain⟨s,e,rfl,q,o,M⟩:=r.i j;show .jX λD=>.dz q o λD C O=>?_;let l:=Dh M C D.fZ;split nX _ _ _ _ ((if c7 e then P.N (j6 (toString e)) else P.ab) J);rw[l];show bm.N #[abO _,TV l] D C O
theorem ab8:∀(H:List ah),(∀Q∈H,gD Q)->(∀Q∈H,∀p∈Q.dK,gD p)->(∀Q∈H,sT Q=L)->∀(y g:Nat)(A:W)(r:Str),gp r=L->r.cps.size+100*H.length<=4000000->bm y g (lz H) (nw H) A (λf f D=>gp D=L) (eE H r):=by
 intro q
 induction q with
 |nil=>intro _ _ _ y g A r b _;show .N b
 |cons Q q w=>
  intro U d c y g A r b h;rw[oW,afG] at h;let T:bm y g (fK Q+lz q) (jV Q+nw q) A (λf f D=>gp D=L) (((eval Q).G (fQ Q.kind)).G λD=>(f5 r D).G λr=>eE q r):=by
   show bm.G (Xp (U Q (.head _)) (d Q (.head _)) (c Q (.head _))) λD e f z=>?_;let a:f5 r D=P.N (r++D):=by unfold f5;rw[g0 (),aL j]
   rw[a];show w (λQ z=>U Q (.tail _ z)) (λQ z=>d Q (.tail _ z)) (λQ z=>c Q (.tail _ z)) _ _ _ _ (abN b z.1) (by rw[aa7];omega)
  rw[d6] at T;show T
def Pj(u:jr .bV aa=L)(c:aa.length<=10)(U:∀Q∈aa,gD Q)(d:∀Q∈aa,∀p∈Q.dK,gD p):gD (.mk .bV aa):=λy s A=>bm.G (cw:=0) (dR:=1) (ab8 aa U d (j'.mp (aw u).2) y s A "" #[] (ao (e3 (nD 100 c) _) (cc #[]))) λD H a h=>.N (e4.of j #[_,j,h])
theorem Rb(u:jr h aa=L)(c:aa.length<=10)(T:oN aa=L)(U:∀Q∈aa,gD Q)(d:∀Q∈aa,∀p∈Q.dK,gD p):gD (.mk h aa):=by
 rcases t:iZ h with _|_
 .show JR (P:=λh=>jr h aa=L->gD (.mk h aa)) t (λp u=>PS u U) (λp u=>aaG u U) (λu=>Zu u d λQ V=>acF T V) (λu=>Pj u c U d) u
 .show XQ t ?_ ?_ c u U
  .cases h
   case ref=>cases t
   all_goals rfl
  .cases h
   case bV=>cases t
   all_goals rfl
structure EQ(x:ah):Prop where
 e:gD x
 k:∀k∈x.dK,gD k
mutual
theorem GX:∀e:ah,la e=L->EQ e
 |.mk h aa,x=>
  let BB:=G3 aa (aw x).2
  #[Rb (vH x).1 (vH x).2.1 (aw x).2 (λe V=>(BB e V).e) λe V=>(BB e V).k,λe V=>(BB e V).e]
theorem G3:∀aa:List ah,oN aa=L->∀e∈aa,EQ e
 |[],_=>λa h=>nomatch h
 |y::r,x=>bg.mpr #[GX y (aw x).1,G3 r (aw x).2]
end
def aei:fw (bd 0 hb) 6 hb:=by let a:∀{i:Int},0<=i->i<=131072->within (bd 0 hb) i:=gM;let g:∀{T:List Int},(∀i∈T,0<=i/\i<=131072)->∀i∈T,within (bd 0 hb) i:=λz i J=>a (z i J).1 (z i J).2;show#[ff _,(λb z=>nomatch z),bq _,?_,.mk (bq 2),a () (),a () (),.inr #[by decide,10,j],.inr #[by decide,[30,31],j],a () (),.inr #[by decide,_,j],.inr #["x",j,#[],cc #[]]];show bg.mpr #[a (i:=10) () (),bg.mpr #[a (i:=20) () (),bg.mpr #[#[by decide,g ()],bg.mpr #[#[by decide,g ()],bg.mpr #[a (i:=7) () (),bg.mpr #[trivial,λb z=>nomatch z]]]]]]
mutual
theorem LD:∀e:ah,jV e<=fa e
 |.mk h aa=>ao (hJ (LF aa)) (bv ..)
theorem LF:∀aa:List ah,nw aa<=iC aa
 |[]=>bq _
 |e::r=>i6 (LD e) (LF r)
end
def C1{D:Str}(z:gp D=L)(p:dg 9 v=L):dg 10 (.J [.str D,v])=L:=a9 z (a9 p j)
theorem DM(u:la e=L)(O:i4 e.kind=L)(b:fy e<=43)(i:cO e<=42)(h:fa e<=20000)(c:fK e<=68):Good e:=by
 let a:=L4 e u;let Q:=LD e;let T:=(GX e u).e 0 6 hb aei (em _▸c) ();show#[#[a.s,a.l,a.t],a.n,a9 a.x (pP (ve O)),a.r,b,i,ao (nD 4 h) (),?_];revert T;generalize eval e hb=d;intro T;cases d with
 |ab=>show T.elim
 |ok B H=>show#[_,H,j,C1 #[] (T.2.2.val (ve O)).dg,T.1.kn,T.1.ee.dg]
 |exc H=>
  show#[_,H,j,?_,T.1.kn,T.1.ee.dg];split
  .show C1 #[] AN
  .show C1 #[] AN
end
abbrev bn(C:List O)(k:Nat)(U:Int)(h:V->M V):M V:=(ag C k "_law_take" [⇑2,↑U]).G h
abbrev bY(C:List O)(k:Nat)(f:Str)(x:V)(h:V->M V):M V:=(ag C k f [⇑2,x]).G h
abbrev cN(C:List O)(x:Str)(h:V->M V):M V:=(aJ C ⇑2 (.str x)).G h
abbrev cZ(C:List O)(x:V)(h:V->M V):M V:=(bQ C .Sub x ↑1).G h
abbrev mr(C:List O)(k:Nat)(o:V)(h:V->M V):M V:=(ag C k "_law_named" [⇑2,o]).G h
abbrev xN(C:List O)(k:Nat)(o:V):M V:=(ag C k mE [⇑2,o]).G M.N
abbrev ph(C:List O)(B:V)(h:V->M V):M V:=(bQ C .Add ↑1 B).G h
def me(C:List O)(B:V)(U:Int)(a b:M V):M V:=(bh C .Gt B ↑U).G λ|true=>a|false=>b
def oi(C:List O)(B:V)(U:Int)(a b:M V):M V:=(bh C .LtE B ↑U).G λ|true=>a|false=>b
def pH(C:List O)(B:V)(U:Int)(a b:M V):M V:=(bh C .Lt B ↑U).G λ|true=>a|false=>b
def mu(C:List O)(l:List V)(B:V):M V:=(aJ C (.J l) B).G M.N
def SG(U:V):ag C (k+1) "_law_take" [⇑2,U]=cN C "at" λE=>(bQ C .Mult E ↑4099).G λE=>(bQ C .Add E ↑77017).G λE=>(bQ C .Mod E ↑1000003).G λE=>(dd C ⇑2 (.str "at") E).G λa=>cN C "at" λE=>(bQ C .FloorDiv E ↑8).G λE=>(bQ C .Mod E U).G M.N:=by ac_rfl
def Sm(d:V):ag C (k+1) "_law_named" [⇑2,d]=cN C "ids" λE=>(bQ C .Add E ↑1).G λE=>(dd C ⇑2 (.str "ids") E).G λa=>cN C "ids" λE=>M.N (.J [d,E,.J []]):=by ac_rfl
def Si(n:V):ag C (k+1) mE [⇑2,n]=bn C k 3 λr=>me C r 0 (bn C k 2 λr=>ph C r λr=>M.N (.J [↑30,n,.J [↑2,↑7,r]])) (cN C "c" λg=>mr C k g λU=>M.N (.J [↑8,n,.none,U,.J [],↑0])):=by ac_rfl
def HF(x:V):ag C (k+1) dr [⇑2,x]=oi C x 0 (bn C k 5 λr=>pH C r 2 (xN C k ↑7) (aV C r ↑2 (bn C k 4 λr=>M.N (.J [↑1,↑7,r])) (bn C k 2 λr=>ph C r λr=>M.N (.J [↑2,↑7,r])))) (az C k dr [0] 49 (lR x)):=by ac_rfl
def Sd(x:V):az C k dr [0] 49 (lR x)=cg C k dr [1] 48 (lR x) (az C k dr [1] 48):= #[]
def Se(x:V)(c:ap->M V):cg C k dr [1] 48 (lR x) c=bn C k 12 λr=>c (ft x r):= #[]
def Sf(x r:V):az C k dr [1] 48 (ft x r)=cg C k dr [2] 47 (ft x r) (az C k dr [2] 47):= #[]
def Sg(x r:V)(c:ap->M V):cg C k dr [2] 47 (ft x r) c=cZ C x λx=>c (ft x r):= #[]
abbrev yg:List V:=[.str "+",.str "-",.str "/"]
def Sh(x:V)(r:Int):az C k dr [2] 47 (ft x ↑r)=aV C ↑r ↑0 (bn C k 3 λr=>(aJ C (.J yg) r).G λd=>bY C k dr x λE=>bY C k dr x λy=>M.N (.J [↑14,↑7,d,E,y,↑0]))
 (aV C ↑r ↑1 (bY C k lS x λE=>M.N (.J [↑7,↑7,E]))
 (aV C ↑r ↑2 (bY C k jZ x λE=>cN C "c" λg=>M.N (.J [↑4,↑7,E,.J [g,↑1]]))
 (aV C ↑r ↑3 (bY C k lS x λE=>bY C k dr x λy=>M.N (.J [↑6,↑7,E,y]))
 (aV C ↑r ↑4 (bY C k "_law_bool" x λE=>bY C k dr x λy=>bY C k dr x λg=>M.N (.J [↑17,↑7,E,y,g]))
 (aV C ↑r ↑5 (bY C k dr x λB=>(ag C k "_law_seq" [⇑2,x,B]).G M.N)
 (aV C ↑r ↑6 (bY C k js x λE=>M.N (.J [↑19,↑7,E,↑5,↑0]))
 (aV C ↑r ↑7 (bY C k fu x λE=>M.N (.J [↑19,↑7,E,↑7,↑0]))
 (aV C ↑r ↑8 (bn C k 2 λr=>ph C r λr=>bY C k dr x λE=>M.N (.J [↑22,↑7,.J [↑2,↑7,r],E]))
 (aV C ↑r ↑9 (bY C k dr x λE=>M.N (.J [↑30,↑7,E]))
 (aV C ↑r ↑10 (bY C k dr x λE=>M.N (.J [↑19,↑7,.J [↑19,↑9,E,↑1,↑0],↑1,↑1]))
 (cN C "c" λg=>mr C k g λU=>bY C k dr x λE=>bY C k dr x λy=>M.N (.J [↑8,↑7,.none,U,.J [E,y],↑0])))))))))))):= #[]
def HL(x:V):ag C (k+1) jZ [⇑2,x]=bn C k 4 λr=>az C k jZ [0] 49 (ft x r):=by ac_rfl
def m3(C:List O)(x r:V)(i:Int)(a b:M V):M V:=me C x 0 (aV C r ↑i a b) b
def KN(C:List O)(k:Nat):M V:=cN C "c" λg=>cN C "c" λbW=>cN C "c" λeS=>(ag C k mE [⇑2,eS]).G λl=>cN C "c" λx=>(ag C k mE [⇑2,x]).G λm=>bn C k 4 λt=>mu C [.J [↑3,g],.J [↑2,bW,↑4],l,m] t
def Sv(x r:V):az C k jZ [0] 49 (ft x r)=m3 C x r 0 (cN C "c" λg=>cZ C x λx=>(ag C k lc [⇑2,g,x]).G M.N) (az C k jZ [1] 48 (ft x r)):= #[]
def Sw(x r:V):az C k jZ [1] 48 (ft x r)=m3 C x r 1 (cN C "c" λg=>cZ C x λx=>bY C k js x λE=>M.N (.J [↑21,g,E])) (az C k jZ [2] 47 (ft x r)):= #[]
def Sx(x r:V):az C k jZ [2] 47 (ft x r)=m3 C x r 2 (cN C "c" λg=>cZ C x λx=>bY C k js x λE=>M.N (.J [↑19,g,E,↑3,↑0])) (KN C k):= #[]
def Su(x:V):ag C (k+1) "_law_place" [⇑2,x]=bn C k 3 λr=>aV C r ↑0 (bn C k 2 λr=>ph C r λr=>M.N (.J [↑2,↑7,r])) (aV C r ↑1 (bY C k lS x λE=>bY C k dr x λy=>M.N (.J [↑6,↑7,E,y])) (bY C k jZ x λE=>cN C "c" λg=>M.N (.J [↑4,↑7,E,.J [g,↑1]]))):=by ac_rfl
def HM(x:V):ag C (k+1) jt [⇑2,x]=bn C k 4 λr=>az C k jt [0] 49 (ft x r):=by ac_rfl
def SA(x r:V):az C k jt [0] 49 (ft x r)=m3 C x r 0 (cN C "s" λg=>cZ C x λx=>(ag C k lc [⇑2,g,x]).G M.N) (az C k jt [1] 48 (ft x r)):= #[]
def SD(x r:V):az C k jt [1] 48 (ft x r)=m3 C x r 1 (cN C "s" λg=>cZ C x λx=>bY C k js x λE=>M.N (.J [↑19,g,E,↑5,↑0])) (az C k jt [2] 47 (ft x r)):= #[]
def Ly(C:List O)(k:Nat):M V:=cN C "s" λg=>cN C "s" λbW=>cN C "s" λeS=>(ag C k mE [⇑2,eS]).G λl=>bn C k 3 λt=>mu C [.J [↑3,g],.J [↑2,bW,↑3],l] t
def SE(x r:V):az C k jt [2] 47 (ft x r)=m3 C x r 2 (cN C "s" λg=>cZ C x λkQ=>bY C k "_law_bool" kQ λE=>cZ C x λdO=>bY C k jt dO λy=>bY C k jt ↑0 λQ=>M.N (.J [↑17,g,E,y,Q])) (Ly C k):= #[]
def HK(x:V):ag C (k+1) js [⇑2,x]=oi C x 0 ((ag C k mE [⇑2,↑12]).G λT=>bn C k 2 λr=>mu C [.J [↑2,↑12,↑7],T] r) (az C k js [0] 49 (lR x)):=by ac_rfl
def Sr(x:V):az C k js [0] 49 (lR x)=bn C k 5 λr=>az C k js [1] 48 (ft x r):= #[]
def Ss(x:V)(r:Int):az C k js [1] 48 (ft x ↑r)=aV C ↑r ↑0 (cZ C x λx=>bY C k dr x λE=>M.N (.J [↑19,↑12,E,↑4,↑0]))
 (aV C ↑r ↑1 (cZ C x λx=>bY C k jt x λE=>M.N (.J [↑19,↑12,E,↑4,↑0]))
 (aV C ↑r ↑2 (cZ C x λx=>bY C k fu x λE=>M.N (.J [↑19,↑12,E,↑4,↑0]))
 (aV C ↑r ↑3 (cZ C x λx=>bY C k jZ x λE=>M.N (.J [↑19,↑12,E,↑2,↑0]))
 (cZ C x λx=>bY C k lT x λE=>M.N (.J [↑19,↑12,E,↑2,↑0]))))):= #[]
def HC(x:V):ag C (k+1) lS [⇑2,x]=cg C k lS [0] 49 (lR x) (az C k lS [0] 49):=by ac_rfl
def HD(x:V)(c:ap->M V):cg C k lS [0] 49 (lR x) c=bn C k 4 λr=>c (ft x r):= #[]
def R6(x r:V):az C k lS [0] 49 (ft x r)=m3 C x r 0 (cN C "a" λg=>cZ C x λx=>bY C k dr x λE=>M.N (.J [↑10,g,E])) (az C k lS [1] 48 (ft x r)):= #[]
def As(C:List O)(k:Nat):M V:=cN C "a" λg=>cN C "a" λbW=>(ag C k mE [⇑2,bW]).G λl=>bn C k 2 λt=>mu C [.J [↑2,g,↑5],l] t
def FP(C:List O)(k:Nat)(x r:V):M V:=cN C "a" λc=>(bQ C .Add ↑1 r).G λn=>(eW n).G λl=>ni (λv K=>cZ C x λx=>bY C k dr x K) l λvs=>match aU vs.length with
 |true=>(M.new (.list vs)).G λo=>(eM ⇑o).G λr=>M.N (.J [↑11,c,r])
 |false=>M.ab
def R7(x r:V):az C k lS [1] 48 (ft x r)=me C x 0 (pH C r 3 (FP C k x r) (As C k)) (As C k):= #[]
def HG(x:V):ag C (k+1) fu [⇑2,x]=cg C k fu [0] 49 (lR x) (az C k fu [0] 49):=by ac_rfl
def HH(x:V)(c:ap->M V):cg C k fu [0] 49 (lR x) c=bn C k 6 λr=>c (ft x r):= #[]
def HI(Y:ap):az C k fu [0] 49 Y=cg C k fu [1] 48 Y (az C k fu [1] 48):= #[]
def HJ(x r:V)(c:ap->M V):cg C k fu [1] 48 (ft x r) c=cN C "q" λl=>c (rr x r l):= #[]
def VY(C:List O)(k:Nat)(x l:V):M V:=bn C k 3 λt=>(aJ C (.J yg) t).G λo=>cZ C x λkQ=>bY C k fu kQ λa=>cZ C x λdO=>bY C k fu dO λb=>M.N (.J [↑27,l,o,a,b,↑0,↑7])
def Sk(x r l:V):az C k fu [2] 47 (rr x r l)=me C x 0 (pH C r 3 (VY C k x l) (az C k fu [3] 46 (rr x r l))) (az C k fu [3] 46 (rr x r l)):= #[]
def Sj(x r l:V):az C k fu [1] 48 (rr x r l)=m3 C x r 0 (cZ C x λx=>bY C k dr x λE=>M.N (.J [↑19,l,E,↑6,↑0])) (az C k fu [2] 47 (rr x r l)):= #[]
def Sl(x r l:V):az C k fu [3] 46 (rr x r l)=m3 C x r 3 (cZ C x λx=>bY C k fu x λE=>M.N (.J [↑28,l,.str "-",E,↑0])) ((ag C k mE [⇑2,l]).G λT=>bn C k 3 λr=>mu C [.J [↑2,l,↑6],T,.J [↑19,l,.J [↑1,↑14,.none],↑8,↑0]] r):= #[]
def HE(x:V):ag C (k+1) "_law_bool" [⇑2,x]=bn C k 3 λr=>az C k "_law_bool" [0] 49 (ft x r):=by ac_rfl
def R8(x r:V):az C k "_law_bool" [0] 49 (ft x r)=oi C x 0 (xN C k ↑1) (aV C r ↑0 (xN C k ↑1) (aV C r ↑1 (bn C k 2 λr=>(aJ C (.J [.str "<",.str "=="]) r).G λd=>cZ C x λkQ=>bY C k fu kQ λE=>cZ C x λdO=>bY C k fu dO λy=>M.N (.J [↑27,↑1,d,E,y,↑0,↑7]))
 (cZ C x λx=>bY C k js x λE=>cN C "c" λg=>bn C k 2 λr=>(bQ C .Mult ↑4 r).G λr=>M.N (.J [↑20,↑1,E,g,r])))):= #[]
def R9(x:V):ag C (k+1) lT [⇑2,x]=cg C k lT [0] 49 (lR x) (az C k lT [0] 49):=by ac_rfl
def R'(x:V)(c:ap->M V):cg C k lT [0] 49 (lR x) c=bn C k 3 λr=>c (ft x r):= #[]
def Sa(Y:ap):az C k lT [0] 49 Y=cg C k lT [1] 48 Y (az C k lT [1] 48):= #[]
def Sb(x r:V)(c:ap->M V):cg C k lT [1] 48 (ft x r) c=c [("g",⇑2),("d",x),("what",r),("on",.none)]:= #[]
def qu(C:List O)(k:Nat)(a:V):M V:=cN C "f" λf=>cN C "c" λc=>mr C k c λn=>M.N (.J [↑25,f,a,n,↑0])
def R_(x:V)(r:Int):az C k lT [1] 48 [("g",⇑2),("d",x),("what",↑r),("on",.none)]=aV C ↑r ↑0 (bY C k jt x λE=>qu C k (.J [↑19,↑12,E,↑4,↑0])) (aV C ↑r ↑1 (bY C k jZ x λE=>qu C k E) (me C x 1 (bY C k jZ x λE=>qu C k E) (qu C k .none))):= #[]
def Sy(x B:V):ag C (k+1) "_law_seq" [⇑2,x,B]=bY C k dr x λE=>(M.new (.list [E])).G λd=>az C k "_law_seq" [0] 49 [("g",⇑2),("d",x),("value",B),("effects",⇑d)]:=by ac_rfl
def vA(C:List O)(B:V)(o:Nat):M V:=(aJ C B ↑1).G λn=>(eM ⇑o).G λt=>M.N (.J [↑31,n,t,B])
def Sz(x B:V)(d:Nat):az C k "_law_seq" [0] 49 [("g",⇑2),("d",x),("value",B),("effects",⇑d)]=bn C k 2 λr=>aV C r ↑0 ((e' C ⇑d c9).G λl=>bn C k 2 λr=>ph C r λr=>bY C k dr ↑0 λE=>hc C k ⇑d l (.J [↑22,↑7,.J [↑2,↑7,r],E]) (vA C B d)) (vA C B d):= #[]
abbrev BR(n x:V)(o:Nat):ap:=[("g",⇑2),("k",n),("d",x),("args",⇑o)]
abbrev uQ(n x:V)(o:Nat)(a r:V):ap:=[("g",⇑2),("k",n),("d",x),("args",⇑o),("one",a),("what",r)]
def Sn(n x:V):ag C (k+1) lc [⇑2,n,x]=(M.new (.list [])).G λd=>bn C k 2 λr=>(bQ C .Add ↑2 r).G λU=>(eW U).G λT=>cf (a5 C k lc [1] 47) T (BR n x d) (az C k lc [1] 48):=by ac_rfl
def Cg(C:List O)(k o:Nat)(x:V)(h:V->M V):M V:=bn C k 7 λt=>aV C t ↑0 ((e' C ⇑o c9).G λq=>cN C "r" λr=>bY C k "_law_place" ↑0 λp=>hc C k ⇑o q (.J [↑33,r,p]) (h t))
 (aV C t ↑1 ((e' C ⇑o c9).G λq=>bY C k js x λa=>hc C k ⇑o q a (h t))
 (aV C t ↑2 ((e' C ⇑o c9).G λq=>bY C k fu x λa=>hc C k ⇑o q a (h t))
 (aV C t ↑3 ((e' C ⇑o c9).G λq=>bY C k jt x λa=>hc C k ⇑o q a (h t))
 ((e' C ⇑o c9).G λq=>bY C k dr x λa=>hc C k ⇑o q a (h t)))))
def So(n x B:V)(d:Nat)(c:ap->M V):a5 C k lc [1] 47 B (BR n x d) c=Cg C k d x λr=>c (uQ n x d B r):= #[]
def Sp(n x B a A:V)(d:Nat)(c:ap->M V):a5 C k lc [1] 47 B (uQ n x d a A) c=Cg C k d x λr=>c (uQ n x d B r):= #[]
def Sq(n x a A:V)(d:Nat):az C k lc [1] 48 (uQ n x d a A)=mr C k n λU=>(eM ⇑d).G λr=>M.N (.J [↑9,n,U,r]):= #[]
abbrev IS(x:V)(o:Nat):ap:=[("g",⇑2),("d",x),("parts",⇑o)]
abbrev uR(x:V)(o:Nat)(a r:V):ap:=[("g",⇑2),("d",x),("parts",⇑o),("one",a),("what",r)]
def SH(x:V):ag C (k+1) oU [⇑2,x]=(M.new (.list [])).G λd=>bn C k 3 λr=>(bQ C .Add ↑2 r).G λU=>(eW U).G λT=>cf (a5 C k oU [1] 47) T (IS x d) (az C k oU [1] 48):=by ac_rfl
def DL(C:List O)(k o:Nat)(x:V)(h:V->M V):M V:=bn C k 4 λt=>aV C t ↑0 ((e' C ⇑o c9).G λq=>hc C k ⇑o q (.J [↑2,↑13,↑8]) (h t))
 (aV C t ↑1 ((e' C ⇑o c9).G λq=>(ag C k mE [⇑2,↑13]).G λa=>hc C k ⇑o q a (h t))
 ((e' C ⇑o c9).G λq=>cZ C x λx=>bY C k dr x λa=>hc C k ⇑o q (.J [↑19,↑12,a,↑4,↑0]) (h t)))
def Bi(x B:V)(d:Nat)(c:ap->M V):a5 C k oU [1] 47 B (IS x d) c=DL C k d x λr=>c (uR x d B r):= #[]
def Bj(x B a A:V)(d:Nat)(c:ap->M V):a5 C k oU [1] 47 B (uR x d a A) c=DL C k d x λr=>c (uR x d B r):= #[]
def SI(x a A:V)(d:Nat):az C k oU [1] 48 (uR x d a A)=(eM ⇑d).G λr=>M.N (.J [↑26,↑13,r]):= #[]
abbrev U_(C:List O)(k:Nat):M V:=cN C "q" λq=>bn C k 3 λt=>(aJ C (.J yg) t).G λo=>bY C k fu ↑2 λa=>bY C k fu ↑2 λb=>M.N (.J [↑27,q,o,a,b,↑0,↑7])
def Sc(r:Int):ag C (k+1) "_law_drawn" [⇑2,↑r]=aV C ↑r ↑0 (cN C "c" λg=>(ag C k lc [⇑2,g,↑2]).G M.N)
 (aV C ↑r ↑1 (cN C "a" λg=>bY C k dr ↑2 λE=>M.N (.J [↑10,g,E]))
 (aV C ↑r ↑2 (cN C "a" λg=>bY C k dr ↑1 λE=>bY C k dr ↑2 λy=>bY C k dr ↑1 λQ=>M.N (.J [↑11,g,.J [E,y,Q]]))
 (aV C ↑r ↑3 (bY C k lT ↑2 M.N)
 (aV C ↑r ↑4 (cN C "c" λg=>bY C k js ↑2 λE=>M.N (.J [↑21,g,E]))
 (aV C ↑r ↑5 (bY C k js ↑3 M.N)
 (aV C ↑r ↑6 (U_ C k)
 (aV C ↑r ↑7 (cN C "q" λg=>bY C k fu ↑3 λE=>M.N (.J [↑28,g,.str "-",E,↑0]))
 (aV C ↑r ↑8 (bY C k js ↑2 λE=>bY C k jt ↑2 λy=>bY C k fu ↑2 λg=>bn C k 3 λr=>(aJ C (.J [E,y,g]) r).G λB=>(ag C k "_law_seq" [⇑2,↑2,B]).G M.N)
 (aV C ↑r ↑9 (bY C k oU ↑2 M.N)
 (aV C ↑r ↑10 (bY C k jt ↑3 M.N)
 (bY C k dr ↑3 M.N))))))))))):=by
 ac_rfl
variable{aA e6:Nat}{b0:O}{wt:aq->Prop}{uO:Str}
section
inductive hL(x:cX)(c:Int)(n:Nat)(D:aG):Prop
 |mk (a i:Int) (B:dT x a i c D) (f:0<=a) (o:a<1000003) (M:0<=i) (b:i+n<=100000):hL x c n D
theorem hL.le{u:cX}(z:hL u c n D)(T:cw<=n):hL u c cw D:=by obtain⟨E,i,w,f,o,M,b⟩:=z;show#[E,i,w,f,o,M,fg (agl (qc.mpr T) i) b]
theorem hL.app{u:cX}(z:hL u c n D)(H:aG):hL u c n (D++H):=by obtain⟨E,i,w,f,o,M,b⟩:=z;show#[E,i,w.app H,f,o,M,b]
theorem hL.set{u:cX}(a:hL u c n D){d:Nat}(A:13<=d)(z:O):hL u c n (D.set d z):=by obtain⟨E,i,w,f,o,M,b⟩:=a;show#[E,i,w.set A z,f,o,M,b]
theorem hL.len{u:cX}(z:hL u c n D):13<=D.length:=by obtain⟨E,i,w,_⟩:=z;show w.len
structure iM(o:Nat)(s t:aG):Prop where
 len:s.length<=t.length
 eq:∀av,13<=av->av<s.length->av≠o->t[av]?=s[av]?
theorem iM.refl{d:Nat}:iM d s s:= #[bq _,λa a a a=>j]
theorem iM.trans{d:Nat}{r a:aG}(u:iM d s r)(e:iM d r a):iM d s a:= #[ao u.len e.len,λY f o M=>(e.eq Y f (fF o u.len) M).trans (u.eq Y f o M)]
theorem iM.any{d:Nat}{r:aG}(u:iM 0 s r):iM d s r:= #[u.len,λY f o a=>u.eq Y f o λQ=>cH (Q▸f) ()]
theorem iM.at{r:aG}(u:iM 0 s r){o:Nat}(A:13<=o)(z:s[o]?=I b0):r[o]?=I b0:=(u.eq o A (c5.mp z).1 λQ=>cH (Q▸A) ()).trans z
inductive li(x:cX)(c:Int)(n o:Nat)(D:aG)(r:bA aq)(Q:aq->Prop):Prop
 |mk (v:aq) (y:aG) (e:r=.ok v y) (a:hL x c n y) (k:iM o D y) (q:Q v):li x c n o D r Q
def af(b:Nat)(m:M aq)(d:aq->Prop):Prop:=∀(x:cX)(c:Int)(n:Nat)(D:aG),hL x c (n+b) D->li x c n 0 D (m D) d
variable{m:M aq}{Q:aq->Prop}{R:aC->Prop}
theorem af.N{B:aq}(z:Q B):af 0 (M.N B) Q:=λu g U p a=> #[B,p,j,a,.refl,z]
theorem af.aD(z:af aA m Q)(T:aA<=e6):af e6 m Q:=λu g U p a=>z u g U p (a.le (e3 T U))
theorem li.imp{u:cX}{d:Nat}{q:bA aq}(z:li u c n d D q Q)(T:∀B,Q B->wt B):li u c n d D q wt:=by obtain⟨B,y,b,a,p,l⟩:=z;show#[B,y,b,a,p,T B l]
theorem af.imp(z:af aA m Q)(T:∀B,Q B->wt B):af aA m wt:=λu g U p a=>(z u g U p a).imp T
theorem li.pre{u:cX}{d:Nat}{r:aG}{q:bA aq}(p:iM d s r)(z:li u c n d r q Q):li u c n d s q Q:=by obtain⟨B,y,b,a,U,l⟩:=z;show#[B,y,b,a,p.trans U,l]
theorem li.any{u:cX}{d:Nat}{q:bA aq}(z:li u c n 0 s q Q):li u c n d s q Q:=by obtain⟨B,y,b,a,p,l⟩:=z;show#[B,y,b,a,p.any,l]
theorem af.G{f:aq->M aC}(c:af aA m Q)(s:∀B,Q B->af e6 (f B) R):af (e6+aA) (m.G f) R:=λu g n p a=>by obtain⟨B,z,b,e,d,l⟩:=c u g (n+e6) p ((fD n e6 aA).symm▸a);show(a8 b:(m.G f) p=f B z)▸(s B l u g n z e).pre d
theorem af.eq{r:M aq}(z:af aA r Q)(a:m=r):af aA m Q:=a▸z
theorem xj{u:cX}(w:dT u a i c D)(z:∀H,aJ C ⇑2 (.str uO) (cB u a i c++H)=.ok v (cB u a i c++H)):aJ C ⇑2 (.str uO) D=.ok v D:=by obtain⟨H,Q⟩:=w;subst Q;show z H
theorem af.vh{H:V->Prop}(z:∀u E i g H,aJ C ⇑2 (.str uO) (cB u E i g++H)=.ok v (cB u E i g++H))(s:af aA (K v) H):af aA (cN C uO K) H:=λu g U p a=>by let b:=a;obtain⟨E,i,w,_⟩:=b;let Q:cN C uO K p=K v p:=a8 (xj w λH=>z u E i g H);show Q▸s u g U p a
theorem af.jg{H:V->Prop}(s:af aA (K ↑16) H):af aA (cN C "c" K) H:=af.vh (λu E i g H=> #[]) s
theorem af.II{H:V->Prop}(s:af aA (K ↑17) H):af aA (cN C "f" K) H:=af.vh (λu E i g H=> #[]) s
theorem af.sz{H:V->Prop}(s:af aA (K ↑18) H):af aA (cN C "s" K) H:=af.vh (λu E i g H=> #[]) s
theorem af.sy{H:V->Prop}(s:af aA (K ↑19) H):af aA (cN C "a" K) H:=af.vh (λu E i g H=> #[]) s
theorem af.xI{H:V->Prop}(s:af aA (K ↑20) H):af aA (cN C "q" K) H:=af.vh (λu E i g H=> #[]) s
def Lk{u:cX}{B:Int}(H:List O):dd C ⇑2 (.str "at") ↑B (cB u a i c++H)=.ok bL (cB u B i c++H):= #[]
def aaX{u:cX}{B:Int}(H:List O):dd C ⇑2 (.str "ids") ↑B (cB u a i c++H)=.ok bL (cB u a B c++H):= #[]
def HU{u:cX}(H:List O):aJ C ⇑2 (.str "at") (cB u a i c++H)=.ok ↑a (cB u a i c++H):= #[]
def HW{u:cX}(H:List O):aJ C ⇑2 (.str "ids") (cB u a i c++H)=.ok ↑i (cB u a i c++H):= #[]
def OC:(10000000000:Int)<pq:=bS #[]
def q'(u:0<=i)(z:i<=10000000000):c7 i=L:=by show dj.mpr #[cW (v9 Lr u),cW (nM z OC)]
theorem mul_int(T:c7 x=L)(a:c7 y=L):bQ C .Mult ↑x ↑y=M.N ↑(x*y):=by
 let Q:bQ C .Mult ↑x ↑y=M.opt ((pk .Mult x y).map .int):=j;let d:pk .Mult x y=match c7 x&&c7 y with|true=>I (x*y)|false=>au:=j
 rw[Q,d,T,a];rfl
def GF(T:c7 x=L)(a:c7 y=L)(z:0<y):bQ C .FloorDiv ↑x ↑y=M.N ↑(x/y):=by rw[G_ (),T,a];split M.N (V.int (x.fdiv y))=_;rw[Int.fdiv_eq_ediv_of_nonneg _ ()]
def LG{u:cX}{l f:Int}(H:List O):iM 0 (cB u a i c++H) (cB u l f c++H):= #[bq _,λY z b b=>(kE (l₁:=cB u l f c) z).trans (kE (l₁:=cB u a i c) z).symm]
def xl{u:Str}(z:aJ C ⇑2 (.str u) D=.ok v D):cN C u K D=K v D:=a8 z
inductive Fw(n:Int):V->Prop
 |mk (t:Int) (u:0<=t) (f:t<n):Fw n ↑t
def Du(f:0<=a)(o:a<1000003):c7 a=L/\c7 (a*4099+77017)=L:= #[q' f (),q' () ()]
theorem LH{U:Int}(v:0<U):af 0 (ag C (k+1) "_law_take" [⇑2,↑U]) (Fw U):=λu g d p a=>by obtain⟨E,i,c,f,o,M,b⟩:=a;obtain⟨H,Q⟩:=c;subst Q;let x:=Ei (E*4099+77017) (show(1000003:Int)≠0 by decide);let w:=Eg (E*4099+77017) (show(0:Int)<1000003 by decide);show#[↑((E*4099+77017)%1000003/8%U),cB u ((E*4099+77017)%1000003) i g++H,?_,#[_,i,#[H,j],x,w,M,b],LG H,#[_,Ei _ (Int.ne_of_gt v),Eg _ v]];rw[SG,xl (HU H),mul_int (Du f o).1 (q' () ()),a_,add_int,a_,mod_int (),a_,a8 (Lk H),xl (HU H),GF (Du x w).1 (q' () ()) (),a_,mod_int v];rfl
theorem af.d7{U:Int}{H:V->Prop}(v:0<U)(s:∀r:Int,0<=r->r<U->af aA (K ↑r) H):af aA (bn C (k+1) U K) H:=af.G (LH (C:=C) (k:=k) v) λB x=>by cases x with|mk r u f=>show s r u f
inductive Fe(o:V):V->Prop
 |mk (i:Int) (u:0<=i) (f:i<=100000):Fe o (.J [o,↑i,.J []])
theorem JD{d:V}:af 1 (ag C (k+1) "_law_named" [⇑2,d]) (Fe d):=λu g U p a=>by
 obtain⟨E,i,w,f,o,M,b⟩:=a;obtain⟨H,Q⟩:=w;subst Q;let b:i+1+U<=100000:=by rw[agf,agj 1];show b
 let O:=agq M (show(0:Int)<=1 by decide);show#[_,cB u E (i+1) g++H,?_,#[E,i+1,#[H,j],f,o,O,b],LG H,#[i+1,O,fg (Int.le_add_of_nonneg_right (fG U)) b]];rw[Sm,xl (HW H),add_int,a_,a8 (aaX H),xl (HW H)];rfl
theorem af.sM{d:V}{H:V->Prop}(s:∀i:Int,0<=i->i<=100000->af aA (K (.J [d,↑i,.J []])) H):af (aA+1) (mr C (k+1) d K) H:=af.G (JD (C:=C) (k:=k)) λB x=>by cases x with|mk r u f=>show s r u f
structure bH where
 f:Nat
 m:Nat
 z:Nat
 g:Nat
def bH.le(a b:bH):Bool:=b' a.f b.f&&b' a.m b.m&&b' a.z b.z&&b' a.g b.g
structure NF(a b:bH):Prop where
 f:a.f<=b.f
 m:a.m<=b.m
 z:a.z<=b.z
 g:a.g<=b.g
theorem bH.sZ{E y:bH}(z:E.le y=L):NF E y:= #[cc (aw (aw (aw z).1).1).1,cc (aw (aw (aw z).1).1).2,cc (aw (aw z).1).2,cc (aw z).2]
structure kN(q:bH)(a b c d:Nat):Prop where
 f:a<=q.f
 m:b<=q.m
 z:c<=q.z
 g:d<=q.g
theorem kN.le{q i:bH}{E y b:Nat}(a:kN q E y b d)(T:q.le i=L):kN i E y b d:= #[ao a.f (bH.sZ T).f,ao a.m (bH.sZ T).m,ao a.z (bH.sZ T).z,ao a.g (bH.sZ T).g]
structure Ty(aQ:Int)(q:bH)(e:ah):Prop where
 ty:la e=L
 aQ:e.kind=aQ
 cat:hB e.aM=ak
 cJ:kN q (fy e) (cO e) (fa e) (fK e)
theorem Ty.le{n:Int}{q i:bH}(z:Ty n q e)(T:q.le i=L):Ty n i e:= #[z.ty,z.aQ,z.cat,z.cJ.le T]
inductive bt(aQ:Int)(q:bH):V->Prop
 |mk (e:ah) (t:Ty aQ q e):bt aQ q (ax e)
theorem bt.le{n:Int}{q i:bH}(z:bt n q v)(T:q.le i=L):bt n i v:=by cases z with|mk Q r=>show#[Q,r.le T]
theorem af.ty{m:M V}{t:V->M aC}{n:Int}{l:bH}(z:af aA m (bt n l))(s:∀Q,Ty n l Q->af e6 (t (ax Q)) R):af (e6+aA) (m.G t) R:=z.G λB x=>by cases x with|mk Q r=>show s Q r
theorem af.to{m:M V}{n:Int}{q i:bH}(z:af aA m (bt n q))(T:b' aA e6=L)(E:q.le i=L):af e6 m (bt n i):=(z.aD (cc T)).imp λB x=>x.le E
end
variable{Q:V->Prop}
section
def RX(Q:ah):8<=fy Q:=ao (c_ (uo Q) 4) (xr Q)
def V2(Q:ah):7<=cO Q:=ao (c_ (pv Q) 2) (u8 Q)
structure cQ(q:bH)(aa:List ah):Prop where
 ty:oN aa=L
 cJ:kN q (je aa) (iz aa) (iC aa) (lz aa)
def bH.nil:bH:= #[4,4,0,0]
def bH.cat(a b:bH):bH:= #[max a.f b.f,max a.m b.m,a.z+b.z,a.g+b.g]
def t6(z:bP):Nat:=if uF z then 6 else 3
def bH.up(l:bH)(a o:Nat):bH:= #[l.f+4,l.m+a,l.z+1,l.g+o]
theorem cQ.nil:cQ .nil []:= #[j,bq _,bq _,bq _,bq _]
theorem kN.cons{q i:bH}(a:kN q (fy e) (cO e) (fa e) (fK e))(o:kN i (je aa) (iz aa) (iC aa) (lz aa)):kN (q.cat i) (je (e::aa)) (iz (e::aa)) (iC (e::aa)) (lz (e::aa)):= #[g9.mpr #[ao a.f (f7 _ _),ao o.f (f1 _ _)],g9.mpr #[ao a.m (f7 _ _),ao o.m (f1 _ _)],i6 a.z o.z,i6 a.g o.g]
theorem cQ.ex{l i:bH}(r:la e=L)(D:kN l (fy e) (cO e) (fa e) (fK e))(z:cQ i aa):cQ (l.cat i) (e::aa):= #[dj.mpr #[r,z.ty],D.cons z.cJ]
theorem cQ.cons{n:Int}{q i:bH}(r:Ty n q e)(z:cQ i aa):cQ (q.cat i) (e::aa):=.ex r.ty r.cJ z
theorem cQ.one{n:Int}{q:bH}{E:ah}(r:Ty n q E):cQ q [E]:= #[dj.mpr #[r.ty,j],g9.mpr #[r.cJ.f,ao (ao () (RX E)) r.cJ.f],g9.mpr #[r.cJ.m,ao (ao () (V2 E)) r.cJ.m],r.cJ.z,r.cJ.g]
def BA(U:hB h=ak):n+(if hB h then m else 0)=n:=aN (n+ ·) (aS λQ=>kA (U.symm.trans Q))
theorem Ty.node{n:Int}{l eJ:bH}{b d:Nat}(a:cQ l aa)(A:jr h aa=L)(c:b' aa.length 10=L)(U:hB h=ak)(O:h.kind=n)(D:t6 h=b)(N:q3 h=d)(T:(l.up b d).le eJ=L):Ty n eJ (.mk h aa):=Ty.le (q:=l.up b d) #[a9 (a9 A c) a.ty,O,U,#[ao (ds (BA U)) (c_ a.cJ.f 4),ao (ds (BA U)) (D▸c_ a.cJ.m _),ao (ds (BA U)) (c_ a.cJ.z 1),N▸c_ a.cJ.g _]] T
theorem bt.node{n:Int}{l eJ:bH}{g d:Nat}(V:iq h (bi aa)=vs)(a:cQ l aa)(A:jr h aa=L)(c:b' aa.length 10=L)(U:hB h=ak)(O:h.kind=n)(D:t6 h=g)(N:q3 h=d)(T:(l.up g d).le eJ=L):bt n eJ (.J vs):=V▸(bt.mk _ (Ty.node a A c U O D N T):bt n eJ (.J (iq h (bi aa))))
def k5:bH:= #[12,10,2,0]
theorem Ty.aj{n:Int}{q:bH}(z:uX n i=L)(T:(bH.nil.up 3 0).le q=L):Ty n q (.mk (.aj n i) []):=Ty.node cQ.nil z j j j j j T
theorem bt.aj{n:Int}(z:uX n i=L):bt n k5 (.J [↑2,↑n,↑i]):= #[_,Ty.aj z j]
def tc{r:Int}(u:0<=r)(f:r<2):r=0\/r=1:=by omega
def yW{r:Int}(u:0<=r)(f:r<3):r=0\/r=1\/r=2:=by omega
theorem B4{r:Int}(u:0<=r)(f:r<2):uX 7 (1+r)=L:=by obtain Q|Q:=tc u f<;>subst Q<;>rfl
theorem af.t3{m:M aq}{t:aq->M aC}{d:aq->Prop}{H:aC->Prop}(z:af aA m d)(s:∀B,d B->af 0 (t B) H):af aA (m.G t) H:=em aA▸af.G z s
theorem af.t0{m:M V}{t:V->M aC}{n:Int}{l:bH}{H:aC->Prop}(z:af aA m (bt n l))(s:∀Q,Ty n l Q->af 0 (t (ax Q)) H):af aA (m.G t) H:=em aA▸af.ty z s
theorem af.ite{v:Prop}[Decidable v]{r w:M aq}{d:aq->Prop}(E:v->af aA r d)(y:¬v->af aA w d):af aA (if v then r else w) d:=by
 by_cases z:v
 .rw[aL z];show E z
 .rw[aS z];show y z
def AR{v:Prop}[Decidable v]{r:M V}:(match↥v with|true=>r|false=>B)=if v then r else B:=by
 by_cases z:v
 .rw[cW z,aL z]
 .rw[f8 z,aS z]
variable{a6:M V}
theorem af.aV{r:Int}(E:r=i->af aA a6 Q)(y:r≠i->af aA B Q):af aA (aV C ↑r ↑i a6 B) Q:=af.eq (af.ite E y) jH
theorem af.me{r:Int}(E:i<r->af aA a6 Q)(y:¬i<r->af aA B Q):af aA (me C ↑r i a6 B) Q:=af.eq (af.ite E y) AR
theorem af.oi{r:Int}(E:r<=i->af aA a6 Q)(y:¬r<=i->af aA B Q):af aA (oi C ↑r i a6 B) Q:=af.eq (af.ite E y) AR
theorem af.pH{r:Int}(E:r<i->af aA a6 Q)(y:¬r<i->af aA B Q):af aA (pH C ↑r i a6 B) Q:=af.eq (af.ite E y) AR
def LC:(0:Int)<((d+1:Nat):Int):=ahe.mpr (lf d)
theorem af.Bn(E:af aA a6 Q):af aA (Mine.me C ↑((d+1:Nat):Int) 0 a6 B) Q:=af.me (λa=>E) λz=>cH LC z
theorem af.BU(y:af aA B Q):af aA (Mine.oi C ↑((d+1:Nat):Int) 0 a6 B) Q:=af.oi (λz=>cH z (EB.mpr LC)) λa=>y
theorem af.IU(E:af aA a6 Q):af aA (Mine.oi C ↑((0:Nat):Int) 0 a6 B) Q:=af.oi (λa=>E) λz=>cH () z
theorem af.n7{r:Int}(E:r=i->af aA a6 Q)(y:r≠i->af aA B Q):af aA (m3 C ↑((d+1:Nat):Int) ↑r i a6 B) Q:=af.Bn (af.aV E y)
def C4:cZ C ↑((d+1:Nat):Int) K=K ↑d:=by split K ↑(((d+1:Nat):Int)-1)=_;rw[show((d+1:Nat):Int)-1=(d:Int) from MV (d:Int) 1]
theorem af.cZ(E:af aA (K ↑d) Q):af aA (cZ C ↑((d+1:Nat):Int) K) Q:=af.eq E C4
theorem af.ad{r:Int}(E:af aA (K ↑(1+r)) Q):af aA (ph C ↑r K) Q:=E
theorem af.l4{m:M V}(E:af aA m Q):af aA (m.G M.N) Q:=af.eq E (im m)
def uA(u:0<=i)(f:i<=100000):uz i=L:=a9 (cW u) (cW f)
def ep{n:Int}{l:bH}(r:Ty n l e): ↥(e.kind=n)=L:=cW r.aQ
theorem Ty.node1{E:ah}{n g4:Int}{l eJ:bH}{g d:Nat}(r:Ty n l E)(A:jr h [E]=L)(U:hB h=ak)(O:h.kind=g4)(D:t6 h=g)(N:q3 h=d)(T:(l.up g d).le eJ=L):Ty g4 eJ (.mk h [E]):=Ty.node (cQ.one r) A j U O D N T
def pJ{aQ:Int}(O:rY aQ=L):af 1 (ag C (k+2) mE [⇑2,↑aQ]) (bt aQ k5):=by
 show af.eq (af.d7 () λr u M=>af.me (λa=>af.aD (aA:=0) (af.d7 () λr u f=>af.ad ?_) (ff 1)) λa=>af.jg (af.sM (aA:=0) λi u f=>?_)) (Si _)
 .show af.N (bt.node (h:=.cb aQ) (aa:=[.mk (.aj 7 (1+r)) []]) j (cQ.one (Ty.aj (q:= #[8,7,1,0]) (B4 u f) j)) (a9 O j) j j j j j j)
 .show af.N (bt.node (h:=.call aQ i) (aa:=[]) j cQ.nil (a9 (a9 O (uA u f)) j) j j j j j j)
def vk{r:Int}(u:0<=r)(z:r<l.length)(c:b' l.length 1000=L)(y:∀B∈l,Q B):af 0 (mu C l ↑r) Q:=by let a:mu C l ↑r=M.N (g6 l r):=aN (M.G · M.N) (yk u z (cc c));show af.eq (af.N (y _ ?_)) a;let J:r.toNat<l.length:=(v_ u).mpr z;split (l[r.toNat]?).getD .none∈l;rw[lU J];show List.getElem_mem J
def all2{E y:V}(A:Q E)(C:Q y):∀B∈[E,y],Q B:=bg.mpr #[A,bg.mpr #[C,λa z=>nomatch z]]
def An{E y g:V}(A:Q E)(C:Q y)(U:Q g):∀B∈[E,y,g],Q B:=bg.mpr #[A,all2 C U]
def N5{E y g x:V}(A:Q E)(C:Q y)(U:Q g)(G:Q x):∀B∈[E,y,g,x],Q B:=bg.mpr #[A,An C U G]
def pW:Nat->bH|0=> #[12,10,2,0]|1=> #[20,16,8,1]|2=> #[28,22,22,3]|_=> #[40,31,59,9]
def Kw:Nat->bH|0=> #[12,10,2,0]|1=> #[24,19,19,0]|2=> #[28,22,58,3]|_=> #[40,31,175,9]
def yq:Nat->bH|0=> #[24,19,19,0]|1=> #[28,22,58,3]|2=> #[40,31,175,9]|_=> #[44,37,526,27]
def vr:Nat->bH|0=> #[12,10,2,0]|1=> #[24,19,19,0]|2=> #[28,25,58,3]|_=> #[40,31,175,9]
def CS:Nat->bH|0=> #[12,10,2,0]|1=> #[24,19,5,0]|2=> #[36,28,22,1]|_=> #[40,34,61,3]
def Kv:Nat->bH|0=> #[20,16,4,0]|1=> #[32,25,21,0]|2=> #[36,31,60,3]|_=> #[48,37,177,9]
def vp:Nat->bH|0=> #[12,10,2,0]|1=> #[16,13,7,0]|2=> #[24,19,25,3]|_=> #[32,25,67,9]
def vq:Nat->bH|0=> #[12,10,2,0]|1=> #[16,13,5,1]|2=> #[24,19,11,3]|_=> #[32,25,23,7]
def Ku:Nat->bH|0=> #[12,10,2,0]|1=> #[16,13,5,1]|2=> #[28,22,11,3]|_=> #[40,31,23,7]
def dA:Nat->Nat|0=>4|1=>27|2=>96|_=>303
@[elab_as_elim] theorem bI{P:Nat->Prop}{x:Nat}(G:x<=2)(u:P 0)(f:P 1)(o:P 2):P x:=by
 obtain _|x:=x
 .show u
 obtain _|x:=x
 .show f
 show(y'.mp (el (el G))).symm▸o
structure e0(C:List O)(d K:Nat):Prop where
 int:∀k,K<=k->af (dA d) (ag C k dr [⇑2,↑d]) (bt 7 (pW d))
 ref:∀k,K<=k->af (dA d) (ag C k jZ [⇑2,↑d]) (bt 16 (Kw d))
 str:∀k,K<=k->af (dA d) (ag C k jt [⇑2,↑d]) (bt 18 (vr d))
 obj:∀k,K<=k->af (dA d) (ag C k js [⇑2,↑d]) (bt 12 (CS d))
 arr:∀k,K<=k->af (dA d) (ag C k lS [⇑2,↑d]) (bt 19 (vp d))
 may:∀k,K<=k->af (dA d) (ag C k fu [⇑2,↑d]) (bt 20 (vq d))
 Av:∀k,K<=k->af (dA d) (ag C k "_law_bool" [⇑2,↑d]) (bt 1 (Ku d))
theorem af.one{m:M V}{O:V->List V}{n g4:Int}{q eJ:bH}{g d:Nat}(t:af aA m (bt n q))(a:∀E,iq h [ax E]=O (ax E))(A:∀E:ah,Ty n q E->jr h [E]=L)(U:hB h=ak)(b:h.kind=g4)(D:t6 h=g)(c:q3 h=d)(T:(q.up g d).le eJ=L):af aA (m.G λE=>M.N (.J (O E))) (bt g4 eJ):=af.t0 t λE r=>af.N (bt.node (aa:=[E]) (a E) (cQ.one r) (A E r) j U b D c T)
theorem af.two{m:M V}{O:V->V->List V}{n ep g4:Int}{l bs i:bH}{g d:Nat}(t:af aA m (bt n l))(c:af e6 dR (bt ep bs))(e:∀E y,iq h [ax E,ax y]=O (ax E) (ax y))(A:∀E y:ah,Ty n l E->Ty ep bs y->jr h [E,y]=L)(U:hB h=ak)(f:h.kind=g4)(D:t6 h=g)(k:q3 h=d)(T:((l.cat bs).up g d).le i=L):af (e6+aA) (m.G λE=>dR.G λy=>M.N (.J (O E y))) (bt g4 i):=af.ty t λE a=>af.t0 c λy b=>af.N (bt.node (aa:=[E,y]) (e E y) (cQ.cons a (cQ.one b)) (A E y a b) j U f D k T)
def PV{m:M V}{n g4 A u:Int}{l i:bH}(t:af aA m (bt n l))(U:wV g4 A n=L)(T:(l.up 3 0).le i=L):af aA (m.G λE=>M.N (.J [↑19,↑g4,E,↑A,↑u])) (bt g4 i):=af.one (h:=.ew g4 A u) t (λE=>j) (λE r=>hI.mpr (.inl (r.aQ.symm▸U))) j j j j T
end
section
variable{a6:M V}
def BV{n:Int}(O:rY n=L):af 1 (xN C (k+2) ↑n) (bt n k5):=af.l4 (pJ O)
def LL{n:Int}(z:(↥(n=16)|| ↥(n=18))=L):bt n k5 (.J [↑3,↑n]):=bt.node (h:=.this n) (aa:=[]) j cQ.nil z j j j j j j
def PT(u:0<=i)(z:i<=1000):bt 7 k5 (.J [↑1,↑7,↑i]):=bt.node (h:=.const 7 ↑i) (aa:=[]) j cQ.nil (a9 (a9 j (cW u)) (cW z)) j j j j j j
def WL:bt 20 k5 (.J [↑19,↑20,.J [↑1,↑14,.none],↑8,↑0]):=bt.node (h:=.ew 20 8 0) (aa:=[.mk (.const 14 .none) []]) j (cQ.one (Ty.node (eJ:= #[8,7,1,0]) (h:=.const 14 .none) (aa:=[]) cQ.nil j j j j j j j)) j j j j j j j
def KO:af 2 (KN C (k+2)) (bt 16 k5):=af.jg (af.jg (af.jg (af.G (aA:=1) (e6:=1) (pJ j) λT c=>af.jg (af.t3 (pJ j) λm i=>af.d7 () λr u f=>vk u f j (N5 (LL j) (bt.aj j) c i)))))
def Lz:af 2 (Ly C (k+2)) (bt 18 k5):=af.aD (aA:=1) (af.sz (af.sz (af.sz (af.t3 (pJ j) λT c=>af.d7 () λr u f=>vk u f j (An (LL j) (bt.aj j) c))))) ()
def FO:af 2 (As C (k+2)) (bt 19 k5):=af.aD (aA:=1) (af.sy (af.sy (af.t3 (pJ j) λT c=>af.d7 () λr u f=>vk u f j (all2 (bt.aj j) c)))) ()
def VX(C:List O)(k:Nat):M V:=(ag C k mE [⇑2,↑20]).G λl=>bn C k 3 λt=>mu C [.J [↑2,↑20,↑6],l,.J [↑19,↑20,.J [↑1,↑14,.none],↑8,↑0]] t
def Js:af 2 (VX C (k+2)) (bt 20 k5):=af.aD (aA:=1) (af.t3 (pJ j) λT c=>af.d7 () λr u f=>vk u f j (An (bt.aj j) c WL)) ()
def ri{P:Nat->Prop}(z:∀p,P (p+3)):∀p,3<=p->P p:=λp O=>ie O▸z (p-3)
def sK:e0 C 0 3:=by
 show#[ri λp=>?_,ri λp=>?_,ri λp=>?_,ri λp=>?_,ri λp=>?_,ri λp=>?_,ri λp=>?_]
 .show af.to (q:=k5) (aA:=1) (af.eq (af.IU (af.d7 () λr u f=>af.pH (λa=>BV j) λa=>af.aV (λa=>?_) λa=>?_)) (HF _)) j j
  .show af.aD (aA:=0) (af.d7 () λr u f=>af.N (PT u (iJ (zB f ())))) ()
  .show af.aD (aA:=0) (af.d7 () λr u f=>af.N (bt.aj (B4 u f))) ()
 .show af.to (aA:=2) (af.eq (af.d7 () λr u f=>KO) (HL _)) j j
 .show af.to (aA:=2) (af.eq (af.d7 () λr u f=>Lz) (HM _)) j j
 .show af.to (q:=k5) (aA:=1) (af.eq (af.IU ?_) (HK _)) j j;show af.t3 (pJ j) λT c=>af.d7 () λr u f=>vk u f j (all2 (bt.aj j) c)
 .rw[HC,HD];show af.to (aA:=2) (af.d7 () λr u f=>FO) j j
 .rw[HG,HH];show af.to (aA:=2) (af.d7 () λr u f=>af.eq (af.eq (af.xI Js) (HJ _ _ _)) (HI _)) j j
 .show af.to (aA:=1) (af.eq (af.d7 () λr u f=>BV j) (HE _)) j j
end
variable{R:V->Prop}{hs:Nat}{kc:V->V->ap}{cI:ap->M V}{c6:Nat}
section
variable{a6:M V}
def bz(o:Nat)(H:List ah)(b:Nat)(m:M aq)(d:aq->Prop):Prop:=∀(x:cX)(c:Int)(n:Nat)(D:aG),hL x c (n+b) D->13<=o->D[o]?=I (.list (bi H))->li x c n o D (m D) d
section
variable{m:M aq}{Q:aq->Prop}{R:aC->Prop}{o:Nat}
theorem bz.aD(z:bz o aa aA m Q)(T:aA<=e6):bz o aa e6 m Q:=λu g U p a=>z u g U p (a.le (e3 T U))
theorem bz.eq{r:M aq}(z:bz o aa aA r Q)(a:m=r):bz o aa aA m Q:=a▸z
theorem bz.G{f:aq->M aC}(d:af aA m Q)(s:∀B,Q B->bz o aa e6 (f B) R):bz o aa (e6+aA) (m.G f) R:=λu g n b a A N=>by obtain⟨B,z,c,e,p,l⟩:=d u g (n+e6) b ((fD n e6 aA).symm▸a);show(a8 c:(m.G f) b=f B z)▸(s B l u g n z e A (p.at A N)).pre p.any
theorem bz.ite{v:Prop}[Decidable v]{r w:M aq}(E:v->bz o aa aA r Q)(y:¬v->bz o aa aA w Q):bz o aa aA (if v then r else w) Q:=by
 by_cases z:v
 .rw[aL z];show E z
 .rw[aS z];show y z
end
section
variable{o:Nat}
theorem bz.d7{U:Int}(v:0<U)(s:∀r:Int,0<=r->r<U->bz o aa aA (K ↑r) R):bz o aa aA (bn C (k+1) U K) R:=bz.G (LH (C:=C) (k:=k) v) λB x=>by cases x with|mk r u f=>show s r u f
theorem bz.aV{r:Int}(E:r=i->bz o aa aA a6 R)(y:r≠i->bz o aa aA B R):bz o aa aA (aV C ↑r ↑i a6 B) R:=bz.eq (bz.ite E y) jH
def BS(c:aa.length<=1000):(bi aa).length<=4000000:=iV aa▸ao c ()
theorem bz.J(c:aa.length<=1000)(t:af aA (K (.J (bi aa))) R):bz o aa aA ((eM ⇑o).G K) R:=λu g U p a A N=>(a8 (lN N (BS c)):((eM ⇑o).G K) p=K (.J (bi aa)) p)▸(t u g U p a).any
theorem iM.set:iM o s (s.set o b0):= #[ds fV.symm,λY a a z=>gh z]
theorem bz.push{m:M V}{S:V->V}{h:M V}(t:af aA m Q)(c:aa.length<=1000)(s:∀B,Q B->∃b,S B=ax b/\bz o (aa++[b]) e6 h R):bz o aa (e6+aA) ((e' C ⇑o c9).G λl=>m.G λB=>hc C k ⇑o l (S B) h) R:=λu g U p a A N=>by obtain⟨B,z,f,e,n,l⟩:=t u g (U+e6) p ((fD U e6 aA).symm▸a);let r:=n.at A N;obtain⟨b,d,i⟩:=s B l;rw[a8 (sU N),a8 f,wG r (BS c)];show(i u g U _ (e.set A _) A (by rw[iF (c5.mp r).1,d,QS];rfl)).pre (n.any.trans iM.set)
theorem af.lE{t:Nat->M V}(s:∀d,bz d aa aA (t d) R):af aA ((M.new (.list (bi aa))).G t) R:=λu g U p a=>by obtain⟨B,y,Q,e,n,l⟩:=s p.length u g U (p++[.list (bi aa)]) (a.app _) a.len (dU ..);let c:(p++[O.list (bi aa)]).length=p.length+1:=cu;show#[B,y,Q,e,#[hH (ao (ds c.symm) n.len),λY f o b=>(n.eq Y f (fF (zb o) (ds c.symm)) (iG o)).trans (eP o)],l]
end
section
variable{o:Nat}{P:ah->Prop}{f:V->ap->(ap->M V)->M V}{g:(V->M V)->M V}{e5:ap}
def tV(o a:Nat)(P:ah->Prop)(H:V->Prop)(s:(V->M V)->M V):Prop:=∀(aA:Nat)(aa:List ah)(K:V->M V),aa.length<=9->(∀e t,P e->bz o (aa++[e]) aA (K t) H)->bz o aa (aA+a) (s K) H
def o'(o b U:Nat)(P:ah->Prop)(a:V->Prop)(q:V->V->ap)(E:ap->M V)(H:List ah):Prop:=∀(l:List ah) u w,(∀e∈l,P e)->(H++l).length=U->bz o (H++l) b (E (q u w)) a
theorem o'.snoc(z:o' o aA n P R kc cI aa)(v:P e):o' o aA n P R kc cI (aa++[e]):=λT a A l c=>by rw[ez] at c|-;show z (e::T) a A (bg.mpr #[v,l]) c
theorem VJ(b:∀B a w h,f B (kc a w) h=g λr=>h (kc B r))(p:tV o hs P R g)(v:n<=10)(T:List V):∀(a w:V)(H:List ah),H.length+T.length=n->o' o aA n P R kc cI H->bz o H (aA+hs*T.length) (cf f T (kc a w) cI) R:=by
 induction T with
 |nil=>show λa w H c z=>by have:=z [] a w (λj z=>nomatch z) (by rw[dS];show c);rw[dS] at this;show this
 |cons B T e=>
  intro a w H c z;let d:H.length+1+T.length=n:=(Nat.succ_add _ _).trans c;let M:∀Q:ah,(H++[Q]).length+T.length=n:=λQ=>by rw[cu];show d
  show fD aA (hs*T.length) hs▸bz.eq (p _ H _ (el (ao (bv _ T.length) (d▸v))) λQ r i=>e B r (H++[Q]) (M Q) (z.snoc i)) (b B a w _)
def VK(e:∀v h,f v e5 h=g λr=>h (kc v r))(b:∀v a A h,f v (kc a A) h=g λr=>h (kc v r))(p:tV o hs P R g)(v:V)(l:List V)(c:l.length<=9)(z:o' o aA (l.length+1) P R kc cI []):bz o [] (aA+hs*(l.length+1)) (cf f (v::l) e5 cI) R:=fD aA (hs*l.length) hs▸bz.eq (p _ [] _ (ff _) λQ r d=>VJ b p (hJ c) l v r [Q] (j1 _ _) (z.snoc d)) (e v _)
end
structure Arg(q:bH)(e:ah):Prop where
 ty:la e=L
 bF:t1 e=L
 cJ:kN q (fy e) (cO e) (fa e) (fK e)
inductive hO(P:ah->Prop):V->Prop
 |mk (e:ah) (a:P e):hO P (ax e)
theorem hO.ex{P:ah->Prop}(z:hO P v):∃Q,v=ax Q/\P Q:=by cases z with|mk Q E=>show#[Q,j,E]
theorem bt.arg{n:Int}{l i:bH}(z:bt n l v)(O:i4 n=L)(T:l.le i=L):hO (Arg i) v:=by cases z with|mk Q r=>show#[Q,r.ty,hI.mpr (.inr (r.aQ.symm▸O)),r.cJ.le T]
def yr:bH:= #[16,13,5,0]
inductive pf:V->Prop
 |mk (e:ah) (aQ:Int) (Kb:CL e=L) (t:Ty aQ yr e):pf (ax e)
theorem pf.arg{l:bH}(z:pf v)(b:(yr.up 3 0).le l=L):hO (Arg l) (.J [↑33,↑21,v]):=by
 cases z with
 |mk Q n a r=>have T:Ty 21 l (.mk .ref [Q]):=Ty.node1 r a j j j j b;show hO.mk (.mk .ref [Q]) #[T.ty,j,T.cJ]
theorem XN(g:e0 C 0 c6)(O:c6<=k+1):af 8 (ag C (k+2) "_law_place" [⇑2,↑((0:Nat):Int)]) pf:=by
 show af.eq (af.d7 () λr u f=>af.aV (λc=>?_) λc=>af.aV (λc=>?_) λc=>?_) (Su _)
 .show af.aD (aA:=0) (af.d7 () λr u f=>af.N (pf.mk (.mk (.aj 7 (1+r)) []) 7 (by obtain Q|Q:=tc u f<;>subst Q<;>rfl) (Ty.aj (B4 u f) j))) ()
 .show af.ty (aA:=4) (e6:=4) (g.arr _ O) λE a=>af.t0 (g.int _ O) λy b=>af.N (pf.mk (.mk .c8 [E,y]) 7 j (Ty.node (cQ.cons a (cQ.one b)) (a9 (ep a) (ep b)) j j j j j j))
 .show af.aD (aA:=4) (af.t0 (g.ref _ O) λE a=>af.jg ?_) ();show af.N (pf.mk (.mk .dB [E]) 7 (ep a) (Ty.node1 a (ep a) j j j j j))
theorem bz.oD{m:M V}{S:V->V}{h:M V}{P:ah->Prop}{d:Nat}(t:af aA m Q)(c:aa.length<=9)(a:∀B,Q B->hO P (S B))(s:∀b,P b->bz d (aa++[b]) e6 h R):bz d aa (e6+aA) ((e' C ⇑d c9).G λl=>m.G λB=>hc C k ⇑d l (S B) h) R:=bz.push t (ao c ()) λB x=>(a B x).ex.imp λb z=> #[z.1,s b z.2]
theorem bz.X9{m:M V}{h:M V}{l:bH}{d:Nat}(t:af aA m pf)(c:aa.length<=9)(o:(yr.up 3 0).le l=L)(s:∀Q,Arg l Q->bz d (aa++[Q]) e6 h R):bz d aa (e6+aA) ((e' C ⇑d c9).G λl=>cN C "r" λq=>m.G λv=>hc C k ⇑d l (.J [↑33,q,v]) h) R:=λu g U p a A N=>by
 let b:=a;obtain⟨E,i,w,_⟩:=b;let Q:((e' C ⇑d c9).G λl=>cN C "r" λq=>m.G λv=>hc C k ⇑d l (.J [↑33,q,v]) h) p=((e' C ⇑d c9).G λl=>m.G λv=>hc C k ⇑d l (.J [↑33,↑21,v]) h) p:=by rw[a8 (sU N),a8 (sU N)];show a8 (xj w λR=> #[])
 show Q▸bz.oD (S:=λv=>.J [↑33,↑21,v]) t c (λB z=>z.arg o) s u g U p a A N
def Wv{n:Nat}{q:bH}(e:b' 8 hs=L)(m:b' (dA d) hs=L)(r:((yr.up 3 0).le q&&((CS d).le q&&((vq d).le q&&((vr d).le q&&(pW d).le q))))=L)(g:e0 C d c6)(e5:e0 C 0 c6)(O:c6<=k+1):tV n hs (Arg q) R (Cg C (k+2) n ↑d):=λp H h c z=>by
 let f:=aw r;let o:=aw f.2;let M:=aw o.2;let b:=aw M.2;let i:=cc e;let a:=cc m;let l:=lW O;show bz.d7 () λs t t=>bz.aV (λt=>?_) λt=>bz.aV (λt=>?_) λt=>bz.aV (λt=>?_) λt=>bz.aV (λt=>?_) λt=>?_
 .show bz.X9 ((XN e5 O).aD i) c f.1 λQ E=>z Q _ E
 .show bz.oD (S:=λB=>B) ((g.obj _ l).aD a) c (λB x=>x.arg j o.1) λQ E=>z Q _ E
 .show bz.oD (S:=λB=>B) ((g.may _ l).aD a) c (λB x=>x.arg j M.1) λQ E=>z Q _ E
 .show bz.oD (S:=λB=>B) ((g.str _ l).aD a) c (λB x=>x.arg j b.1) λQ E=>z Q _ E
 .show bz.oD (S:=λB=>B) ((g.int _ l).aD a) c (λB x=>x.arg j b.2) λQ E=>z Q _ E
end
section
variable{a6:M V}
def bH.mul(l:bH)(U:Nat):bH:= #[l.f,l.m,U*l.z,U*l.g]
theorem cQ.all{q:bH}{P:ah->Prop}(a:∀Q,P Q->la Q=L/\kN q (fy Q) (cO Q) (fa Q) (fK Q))(b:bH.nil.le q=L)(H:List ah)(c:∀Q∈H,P Q):cQ (q.mul H.length) H:=by
 induction H with
 |nil=>show#[j,(bH.sZ b).f,(bH.sZ b).m,ff _,ff _]
 |cons Q d w=>have v:=a Q (c Q (.head _));let T:=w λQ V=>c Q (.tail _ V);show#[a9 v.1 T.ty,g9.mpr #[v.2.f,T.cJ.f],g9.mpr #[v.2.m,T.cJ.m],ao (i6 v.2.z T.cJ.z) (ds ((j1 _ _).trans (afO _ _).symm)),ao (i6 v.2.g T.cJ.g) (ds ((j1 _ _).trans (afO _ _).symm))]
def CT:Nat->bH|0=> #[20,16,6,0]|1=> #[24,19,19,1]|_=> #[36,28,58,3]
def KC(z:m<=1000)(Q:i=m):eW ↑i=M.N (g2 0 m):=Q▸vt z
theorem Bz(m:Nat):∀Y,(g2 Y m).length=m:=by
 induction m with
 |zero=>show λa=>j
 |succ m w=>show λY=>aN j4 (w (Y+1))
theorem bz.sM{d:Nat}(s:∀i:Int,0<=i->i<=100000->bz d aa aA (K (.J [v,↑i,.J []])) R):bz d aa (aA+1) (mr C (k+1) v K) R:=bz.G (JD (C:=C) (k:=k)) λv x=>by cases x with|mk r u f=>show s r u f
theorem bz.yE{r:Int}{d:Nat}{P:ah->Prop}{t:V->ap->(ap->M V)->M V}{s:(V->M V)->M V}{e5:ap}(i:m<=9)(Q:a+r=(m+1:Nat))(e:∀B h,t B e5 h=s λr=>h (kc B r))(b:∀B g A h,t B (kc g A) h=s λr=>h (kc B r))(p:tV d hs P R s)(z:o' d aA (m+1) P R kc cI []):
  bz d [] (aA+hs*(m+1)) ((bQ C .Add ↑a ↑r).G λU=>(eW U).G λT=>cf t T e5 cI) R:=by
 let c:=Bz m 1;let f:=VK (v:= ↑(0:Nat)) (l:=g2 1 m) e b p (c.symm▸i) (c.symm▸z);rw[c] at f;show bz.eq f (aN (M.G · λT=>cf t T e5 cI) (KC (ao (hJ i) ()) Q))
def Wu{d:Nat}{g:Int}{q eJ:bH}{x:V}(v:b' n 10=L)(e:(↥(g=16)|| ↥(g=18))=L)(b:bH.nil.le q=L)(o:((q.mul n).up 3 0).le eJ=L):o' d 1 n (Arg q) (bt g eJ) (uQ ↑g x d) (az C (k+2) lc [1] 48) []:=λH a A t c=>by let c:H.length=n:=c;show bz.eq (bz.sM (aA:=0) λi u f=>bz.J (c▸ao (cc v) ()) ?_) (Sq ..);show af.N (bt.node (h:=.new g i) (aa:=H) j (cQ.all (λQ E=> #[E.ty,E.cJ]) b H t) (a9 (a9 e (uA u f)) (j'.mpr λQ l=>(t Q l).bF)) (c▸v) j j j j (c▸o))
theorem Ch{n:Int}(b:d<=2)(g:e0 C d c6)(e5:e0 C 0 c6)(O:c6<=k+1)(e:(↥(n=16)|| ↥(n=18))=L):af (dA (d+1)-2) (ag C (k+3) lc [⇑2,↑n,↑d]) (bt n (yq d)):=by
 let a:∀(c m:Nat)(r:Int),m<=2->2+r=(m+1:Nat)->b' (1+(dA d+4)*(m+1)) (dA (d+1)-2)=L->(((CT d).mul (m+1)).up 3 0).le (yq d)=L->bz c [] (dA (d+1)-2) ((bQ C .Add ↑2 ↑r).G λU=>(eW U).G λT=>cf (a5 C (k+2) lc [1] 47) T (BR ↑n ↑d c) (az C (k+2) lc [1] 48)) (bt n (yq d)):=λc m r i Q p h=>bz.aD (aA:=1+(dA d+4)*(m+1)) (bz.yE (ao i ()) Q (So _ _ · c) (Sp _ _ · · · c) (Wv (hs:=dA d+4) (q:=CT d) (bI b j j j) (bI b j j j) (bI b j j j) g e5 O) (Wu (q:=CT d) (eJ:=yq d) (j2.mpr (ao (hJ i) ())) e (bI b j j j) h)) (cc p);show af.eq (af.lE (aa:=[]) λc=>bz.d7 () λr u f=>?_) (Sn _ _);obtain Q|Q:=tc u f<;>subst Q
 .show a c 1 0 () j (bI b j j j) (bI b j j j)
 .show a c 2 1 () j (bI b j j j) (bI b j j j)
end
section
variable{a6:M V}
def q_{P:Nat->Prop}(z:∀Y,c6<=Y->P (Y+6)):∀p,c6+6<=p->P p:=λp O=>ie (ao (fE 6 c6) O)▸z (p-6) (Mw O)
def Gx{n:Int}{l i:bH}(r:Ty n l e)(O:(↥(n=12)|| ↥(n=16))=L)(T:(l.up 3 0).le i=L):af 1 (qu C (k+1) (ax e)) (bt 17 i):=by show af.II (af.jg (af.sM (aA:=0) λa u f=>?_));show af.N (bt.node (h:=.hg a) (aa:=[e]) j (cQ.one r) (a9 (uA u f) (r.aQ.symm▸O)) j j j j j T)
def Qn{l:bH}(T:(bH.nil.up 3 0).le l=L):af 1 (qu C (k+1) .none) (bt 17 l):=by show af.II (af.jg (af.sM (aA:=0) λi u f=>?_));show af.N (bt.node (h:=.hg i) (aa:=[]) j cQ.nil (uA u f) j j j j j T)
def Gy(G:d<=2)(g:e0 C d c6)(O:c6<=k+1):af (dA d+1) (ag C (k+2) lT [⇑2,↑d]) (bt 17 (Kv d)):=by rw[R9,R'];let H:af (dA d+1) (bY C (k+1) jZ ↑d λE=>qu C (k+1) E) (bt 17 (Kv d)):=j1 1 (dA d)▸af.ty (g.ref _ O) λQ s=>Gx s j (bI G j j j);show af.d7 () λr u f=>af.eq (af.eq (af.eq (af.aV (λa=>?_) λa=>af.aV (λa=>H) λa=>af.me (λa=>H) λa=>af.aD (Qn (bI G j j j)) (fE _ _)) (R_ ..)) (Sb ..)) (Sa ..);show j1 1 (dA d)▸af.ty (g.str _ O) λQ s=>Gx (Ty.node1 (h:=.ew 12 4 0) (eJ:=(vr d).up 3 0) s (hI.mpr (.inl (s.aQ.symm▸j))) j j j j (bI G j j j)) j (bI G j j j)
def m2{m:M V}{n g4 A u:Int}{l i:bH}(t:af aA m (bt n l))(p:b' aA e6=L)(U:wV g4 A n=L)(T:(l.up 3 0).le i=L):af e6 (m.G λE=>M.N (.J [↑19,↑g4,E,↑A,↑u])) (bt g4 i):=af.aD (PV t U T) (cc p)
def Zt(G:d<=2)(g:e0 C d c6)(e5:e0 C 0 c6):∀k,c6+6<=k->af (dA (d+1)) (ag C k jZ [⇑2,↑((d+1:Nat):Int)]) (bt 16 (Kw (d+1))):=q_ λY s=>by
 let O:=mK (k:=5) s;show af.eq (af.d7 () λr u f=>af.eq (af.n7 (λa=>af.jg (af.cZ (af.l4 ?_))) λa=>af.eq (af.n7 (λa=>af.jg (af.cZ ?_)) λa=>af.eq (af.n7 (λa=>af.jg (af.cZ ?_)) λa=>?_) (Sx ..)) (Sw ..)) (Sv ..)) (HL _)
 .show af.to (Ch (k:=Y+2) G g e5 (mK (k:=3) s) j) (bI G j j j) (bI G j j j)
 .show af.aD (af.one (h:=.as) (g.obj _ O) (λE=>j) (λE r=>ep r) j j j j (bI G j j j)) (cc (bI G j j j))
 .show m2 (g.obj _ O) (bI G j j j) j (bI G j j j)
 .show af.to KO (bI G j j j) (bI G j j j)
def abQ(G:d<=2)(g:e0 C d c6)(e5:e0 C 0 c6):∀k,c6+6<=k->af (dA (d+1)) (ag C k jt [⇑2,↑((d+1:Nat):Int)]) (bt 18 (vr (d+1))):=q_ λY s=>by
 let O:=mK (k:=5) s;show af.eq (af.d7 () λr u f=>af.eq (af.n7 (λa=>af.sz (af.cZ (af.l4 ?_))) λa=>af.eq (af.n7 (λa=>af.sz (af.cZ ?_)) λa=>af.eq (af.n7 (λa=>af.sz (af.cZ ?_)) λa=>?_) (SE ..)) (SD ..)) (SA ..)) (HM _)
 .show af.to (Ch (k:=Y+2) G g e5 (mK (k:=3) s) j) (bI G j j j) (bI G j j j)
 .show m2 (g.obj _ O) (bI G j j j) j (bI G j j j)
 .show af.to (q:=vr (d+1)) (aA:=dA 0+dA d+dA d) (af.ty (g.Av _ O) λy b=>af.cZ (af.ty (g.str _ O) λe m=>af.t0 (e5.str _ O) λo l=>?_)) (bI G j j j) (bI G j j j);show af.N (bt.node (h:=.bO 18) (aa:=[y,e,o]) j (cQ.cons b (cQ.cons m (cQ.one l))) (a9 (a9 (a9 (a9 (ep b) j) j) (ep m)) (ep l)) j j j j j (bI G j j j))
 .show af.to Lz (bI G j j j) (bI G j j j)
def WW(G:d<=2)(g:e0 C d c6):∀k,c6+6<=k->af (dA (d+1)) (ag C k js [⇑2,↑((d+1:Nat):Int)]) (bt 12 (CS (d+1))):=q_ λY s=>by
 let O:=mK (k:=5) s;show af.eq (af.BU (af.eq (af.d7 () λr u f=>af.eq (af.aV (λa=>af.cZ ?_) λa=>af.aV (λa=>af.cZ ?_) λa=>af.aV (λa=>af.cZ ?_) λa=>af.aV (λa=>af.cZ ?_) λa=>af.cZ ?_) (Ss ..)) (Sr ..))) (HK _)
 .show m2 (g.int _ O) (bI G j j j) j (bI G j j j)
 .show m2 (g.str _ O) (bI G j j j) j (bI G j j j)
 .show m2 (g.may _ O) (bI G j j j) j (bI G j j j)
 .show m2 (g.ref _ O) (bI G j j j) j (bI G j j j)
 .show m2 (Gy (k:=Y+3) G g (mK (k:=4) s)) (bI G j j j) j (bI G j j j)
inductive wr(a6:Str->Bool)(C:List O)(l:List V)(t:V):Prop
 |mk (A:Str) (e:aJ C (.J l) t=M.N (.str A)) (h:a6 A=L):wr a6 C l t
theorem Cy{r:Int}(u:0<=r)(z:r<3):wr pR C yg ↑r:=by
 obtain Q|Q|Q:=yW u z<;>subst Q
 .show#["+",gf 0 0 j () j,j]
 .show#["-",gf 1 1 j () j,j]
 .show#["/",gf 2 2 j () j,j]
theorem W4{r:Int}(u:0<=r)(z:r<2):wr sR C [.str "<",.str "=="] ↑r:=by
 obtain Q|Q:=tc u z<;>subst Q
 .show#["<",gf 0 0 j () j,j]
 .show#["==",gf 1 1 j () j,j]
def I4{aQ:Int}{A:Str}{l eJ:bH}{x:M V}(c:af aA x (bt 20 l))(i:af aA dR (bt 20 l))(d:(↥(aQ=20)&&pR A|| ↥(aQ=1)&&sR A)=L)(o:((l.cat l).up 3 1).le eJ=L):af (aA+aA) (x.G λE=>dR.G λy=>M.N (.J [↑27,↑aQ,.str A,E,y,↑0,↑7])) (bt aQ eJ):=af.two (h:=.lift aQ A) c i (λE y=>j) (λE y a b=>a9 (a9 d (ep a)) (ep b)) j j j j o
theorem af.op{r:Str->Bool}{a:V}(z:wr r C l a)(s:∀A,r A=L->af aA (K (.str A)) Q):af aA ((aJ C (.J l) a).G K) Q:=by obtain⟨A,b,N⟩:=z;show af.eq (s A N) (aN (M.G · K) b)
def I6(a:d<=2)(g:e0 C d c6)(O:c6<=k){n:Int}{A:Str}{i:bH}(b:(↥(n=20)&&pR A|| ↥(n=1)&&sR A)=L)(o:(((vq d).cat (vq d)).up 3 1).le i=L):af (dA (d+1)) (Mine.cZ C ↑((d+1:Nat):Int) λkQ=>bY C k fu kQ λE=>Mine.cZ C ↑((d+1:Nat):Int) λdO=>bY C k fu dO λy=>M.N (.J [↑27,↑n,.str A,E,y,↑0,↑7])) (bt n i):=by show af.cZ (af.eq ?_ (aN (M.G _) (funext λE=>C4)));show af.aD (I4 (g.may _ O) (g.may _ O) b o) (cc (bI a j j j))
def V1(G:d<=2)(g:e0 C d c6):∀k,c6+6<=k->af (dA (d+1)) (ag C k fu [⇑2,↑((d+1:Nat):Int)]) (bt 20 (vq (d+1))):=q_ λY s=>by
 let O:=mK (k:=5) s;rw[HG,HH];show af.d7 () λr u f=>af.eq (af.eq (af.xI (af.eq (af.n7 (λa=>af.cZ ?_) λa=>af.eq (af.Bn (af.pH (λa=>af.d7 () λD c z=>af.op (Cy c z) λA N=>?_) λa=>af.eq (af.n7 (λa=>af.cZ ?_) λa=>?_) (Sl ..))) (Sk ..)) (Sj ..))) (HJ ..)) (HI ..)
 .show m2 (g.int _ O) (bI G j j j) j (bI G j j j)
 .show I6 G g O (hI.mpr (.inl (a9 j N))) (bI G j j j)
 .show af.aD (af.one (h:=.ix) (g.may _ O) (λE=>j) (λE r=>ep r) j j j j (bI G j j j)) (cc (bI G j j j))
 .show af.to Js (bI G j j j) (bI G j j j)
theorem T'{D:Int}(u:0<=D)(f:D<2):(↥(4*D=0)|| ↥(4*D=4))=L:=by obtain Q|Q:=tc u f<;>subst Q<;>rfl
def OR(a:d<=2)(g:e0 C d c6):∀k,c6+6<=k->af (dA (d+1)) (ag C k "_law_bool" [⇑2,↑((d+1:Nat):Int)]) (bt 1 (Ku (d+1))):=q_ λY s=>by
 let O:=mK (k:=5) s;show af.eq (af.d7 () λr u f=>af.eq (af.BU (af.aV (λi=>?_) λi=>af.aV (λi=>af.d7 () λD c z=>af.op (W4 c z) λA b=>?_) λi=>af.cZ ?_)) (R8 ..)) (HE _)
 .show af.to (BV j) (bI a j j j) (bI a j j j)
 .show I6 a g O (hI.mpr (.inr (a9 j b))) (bI a j j j)
 .show af.aD (aA:=dA d) (af.t0 (g.obj _ O) λe m=>af.jg (af.d7 () λD c z=>af.eq ?_ (aN (M.G · _) (mul_int j (q' c (iJ (zB z ()))))))) (cc (bI a j j j));show af.N (bt.node (h:=.is (4*D)) (aa:=[e]) j (cQ.one m) (a9 (T' c z) (ep m)) j j j j j (bI a j j j))
end
section
variable{a6:M V}
theorem VS{P:ah->Prop}(t:af hs (ag C k dr [⇑2,↑d]) (hO P))(T:List V):∀h:List V->M V,(∀H,H.length=T.length->(∀Q∈H,P Q)->af aA (h (bi H)) R)->af (aA+hs*T.length) (ni (λB h=>cZ C ↑((d+1:Nat):Int) λd=>bY C k dr d h) T h) R:=by
 induction T with
 |nil=>show λh z=>z [] j λc z=>nomatch z
 |cons B T w=>intro h z;show fD aA (hs*T.length) hs▸?_;split af _ (Mine.cZ C ↑((d+1:Nat):Int) λm=>bY C k dr m λu=>ni (λB h=>Mine.cZ C ↑((d+1:Nat):Int) λd=>bY C k dr d h) T λe=>h (u::e)) R;show af.cZ (af.G t λa f=>?_);obtain⟨Q,b,v⟩:=f.ex;subst b;show w (λe=>h (ax Q::e)) λH O A=>z (Q::H) (aN j4 O) (bg.mpr #[v,A])
theorem bt.Kt{n:Int}{l:bH}(z:bt n l v):hO (Ty n l) v:=by cases z with|mk Q r=>show#[Q,r]
def FQ(i:d<=2)(g:e0 C d c6)(l:c6<=k){r:Int}(Q:1+r=(n:Nat))(v:b' n 3=L)(p:b' (0+dA d*n) (dA (d+1))=L)(o:(((pW d).mul n).up 3 0).le (vp (d+1))=L):af (dA (d+1)) (FP C k ↑((d+1:Nat):Int) ↑r) (bt 19 (vp (d+1))):=by
 let a:=cc v;let f:=KC (m:=n) (ao a ()) Q;show af.sy ?_;split af _ ((eW ↑(1+r)).G _) _;rw[f];show af.aD (aA:=0+dA d*n) ?_ (cc p);let t:=VS (aA:=0) (R:=bt 19 (vp (d+1))) (af.imp (g.int _ l) λB x=>x.Kt) (g2 0 n) (λO=>match aU O.length with
  |true=>(M.new (.list O)).G λe=>(eM ⇑e).G λr=>M.N (.J [↑11,↑19,r])
  |false=>M.ab) λH c A=>by let c:H.length=n:=c.trans (Bz n 0);let b:aU (bi H).length=L:=g0 (BS (c▸ao a ()));rw[b];show af.lE λe=>bz.J (c▸ao a ()) ?_;show af.N (bt.node (h:=.iS) (aa:=H) j (cQ.all (q:=pW d) (λQ E=> #[E.ty,E.cJ]) (bI i j j j) H A) (j'.mpr λQ V=>ep (A Q V)) (j2.mpr (c▸ao a ())) j j j j (c▸o))
 rw[Bz] at t;show t
theorem Of(G:d<=2)(g:e0 C d c6):∀k,c6+6<=k->af (dA (d+1)) (ag C k lS [⇑2,↑((d+1:Nat):Int)]) (bt 19 (vp (d+1))):=q_ λY s=>by
 let O:=mK (k:=5) s;rw[HC,HD];show af.d7 () λr u f=>af.eq (af.n7 (λa=>af.sy (af.cZ ?_)) λc=>af.eq (af.Bn (af.pH (λb=>?_) λa=>?_)) (R7 ..)) (R6 ..)
 .show af.aD (af.one (h:=.k4) (g.int _ O) (λE=>j) (λE r=>ep r) j j j j (bI G j j j)) (cc (bI G j j j))
 .obtain Q|Q|Q:=yW u b
  .cases c Q
  .subst Q;show FQ G g O (n:=2) j j (bI G j j j) (bI G j j j)
  .subst Q;show FQ G g O (n:=3) j j (bI G j j j) (bI G j j j)
 .show af.to FO (bI G j j j) (bI G j j j)
end
section
variable{a6:M V}
def Uf{n:Int}{l:bH}(r:Ty n l e):aJ C (ax e) ↑1=M.N ↑n:=by obtain⟨z,H⟩:=e;obtain⟨q,x⟩:=n9 (L3 (aw (aw r.ty).1).1).bF;let f:ax (.mk z H)=.J (iq z (bi H)):=j;rw[f,x];show gf 1 1 j () (aN (λu=>I (V.int u)) r.aQ)
def Lc{n:Int}{d:Nat}{b:List ah}{l bs i:bH}(r:Ty n l e)(O:(i4 n&& !↥(n=13))=L)(T:cQ bs b)(c:b' (b.length+1) 10=L)(x:(b.all λe=>i4 e.kind)=L)(o:((l.cat bs).up 3 0).le i=L):bz d b 0 (vA C (ax e) d) (bt n i):=by delta vA;rw[Uf r];show bz.J (ao (j3 _) (ao (cc c) ())) ?_;show af.N (bt.node (h:=.seq n) (aa:=e::b) j (cQ.cons r T) (a9 (a9 (a9 (ep r) (aw O).1) (aw O).2) x) c j j j j o)
def C5(C:List O)(k:Nat):M V:=bn C (k+1) 2 λt=>ph C t λt=>bY C (k+1) dr ↑((0:Nat):Int) λa=>M.N (.J [↑22,↑7,.J [↑2,↑7,t],a])
def aaB(n:V->M V):(bn C (k+1) 2 λr=>ph C r λr=>bY C (k+1) dr ↑((0:Nat):Int) λE=>n (.J [↑22,↑7,.J [↑2,↑7,r],E]))=(C5 C k).G n:=by delta C5;show ME ((hv _ _ n).trans (aN (M.G _) (funext λr=>?_)));show(hv _ _ n).trans (aN (M.G _) (funext λa=>?_));show hv _ _ n
theorem FR{D:Int}{l:bH}(u:0<=D)(f:D<2)(r:Ty 7 l e):((↥(1+D=1)|| ↥(1+D=2))&& ↥(e.kind=7))=L:=a9 (by obtain e|e:=tc u f<;>subst e<;>rfl) (ep r)
def aaA(e5:e0 C 0 c6)(O:c6<=k+1):af 4 (C5 C k) (bt 7 #[16,13,3,0]):=by show af.d7 () λD c z=>af.ad ?_;show af.one (h:=.dJ (1+D)) (q:=pW 0) (e5.int _ O) (λE=>j) (λE r=>FR c z r) j j j j j
def vL{l:bH}(r:Ty 7 l e):i4 e.kind=L:=r.aQ.symm▸j
def Le{n:Int}{l g eJ:bH}(e5:e0 C 0 c6)(O:c6<=k+1)(t:af hs (ag C (k+1) dr [⇑2,↑d]) (bt 7 g))(r:Ty n l e)(x:(i4 n&& !↥(n=13))=L)(b4:((l.cat g).up 3 0).le eJ=L)(cp:((l.cat (g.cat #[16,13,3,0])).up 3 0).le eJ=L):af (4+hs) (ag C (k+2) "_law_seq" [⇑2,↑d,ax e]) (bt n eJ):=by
 show af.eq (af.ty t λE a=>af.lE (aa:=[E]) λh=>bz.eq (bz.d7 () λc u f=>bz.aV (λi=>?_) λi=>?_) (Sz ..)) (Sy ..)
 .show bz.eq ?_ (aN (M.G _) (funext λq=>aaB λB=>hc C (k+1) ⇑h q B (vA C (ax e) h)));show bz.oD (aa:=[E]) (e6:=0) (S:=λB=>B) (em 4▸aaA e5 O) (show 1<=9 by decide) (λB x=>x.Kt) λy b=>Lc r x (cQ.cons a (cQ.one b)) j (a9 (vL a) (a9 (vL b) j)) cp
 .show bz.aD (Lc r x (cQ.one a) j (a9 (vL a) j) b4) ()
end
section
variable{a6:M V}
def FW{l:bH}(r:Ty 7 l e):t1 e=L:=hI.mpr (.inr (vL r))
def TU(G:d<=2)(g:e0 C d c6)(e5:e0 C 0 c6):∀k,c6+6<=k->af (dA (d+1)) (ag C k dr [⇑2,↑((d+1:Nat):Int)]) (bt 7 (pW (d+1))):=q_ λY s=>by
 let O:=mK (k:=5) s;let i:=g.int (Y+5) O;rw[HF];show af.BU ?_;rw[Sd,Se];show af.d7 () λr u f=>?_;rw[Sf,Sg];show af.cZ (af.eq (af.aV (λp=>af.d7 () λD c z=>af.op (Cy c z) λA n=>?_) λp=>af.aV (λp=>?_) λp=>af.aV (λp=>?_) λp=>af.aV (λp=>?_) λp=>af.aV (λp=>?_) λp=>af.aV (λp=>?_) λp=>af.aV (λp=>?_) λp=>af.aV (λp=>?_) λp=>af.aV (λp=>af.d7 () λD c z=>af.ad ?_) λp=>af.aV (λp=>?_) λp=>af.aV (λp=>?_) λp=>?_) (Sh _ _))
 .show af.aD (af.two (h:=.bin A) i i (λE y=>j) (λE y a b=>a9 (a9 n (ep a)) (ep b)) j j j j (bI G j j j)) (cc (bI G j j j))
 .show af.aD (af.one (h:=.len) (g.arr _ O) (λE=>j) (λE r=>ep r) j j j j (bI G j j j)) (cc (bI G j j j))
 .show af.aD (aA:=dA d) (af.t0 (g.ref _ O) λe m=>af.jg ?_) (cc (bI G j j j));show af.N (bt.node (h:=.dB) (aa:=[e]) j (cQ.one m) (ep m) j j j j j (bI G j j j))
 .show af.aD (af.two (h:=.c8) (g.arr _ O) i (λE y=>j) (λE y a b=>a9 (ep a) (ep b)) j j j j (bI G j j j)) (cc (bI G j j j))
 .show af.aD (aA:=dA d+dA d+dA d) (af.ty (g.Av _ O) λy b=>af.ty i λe m=>af.t0 i λo l=>?_) (cc (bI G j j j));show af.N (bt.node (h:=.bO 7) (aa:=[y,e,o]) j (cQ.cons b (cQ.cons m (cQ.one l))) (a9 (a9 (a9 (a9 (ep b) j) j) (ep m)) (ep l)) j j j j j (bI G j j j))
 .show af.aD (aA:=(4+dA d)+dA d) (af.ty i λe m=>af.l4 ?_) (cc (bI G j j j));show Le (k:=Y+3) e5 (mK (k:=4) s) (g.int (Y+4) (mK (k:=4) s)) m j (bI G j j j) (bI G j j j)
 .show m2 (g.obj _ O) (bI G j j j) j (bI G j j j)
 .show m2 (g.may _ O) (bI G j j j) j (bI G j j j)
 .show af.aD (af.one (h:=.dJ (1+D)) i (λE=>j) (λE r=>FR c z r) j j j j (bI G j j j)) (cc (bI G j j j))
 .show af.aD (af.one (h:=.cb 7) i (λE=>j) (λE r=>a9 j (vL r)) j j j j (bI G j j j)) (cc (bI G j j j))
 .show af.aD (aA:=dA d) (af.t0 i λe m=>?_) (cc (bI G j j j));show af.N (bt.node (h:=.ew 7 1 1) (aa:=[.mk (.ew 9 1 0) [e]]) j (cQ.one (Ty.node1 (h:=.ew 9 1 0) (eJ:=(pW d).up 3 0) m (hI.mpr (.inl (m.aQ.symm▸j))) j j j j (bI G j j j))) j j j j j j (bI G j j j))
 .show af.jg (af.aD (aA:=dA d+dA d+1) (af.sM λid u f=>af.ty i λe m=>af.t0 i λo l=>?_) (cc (bI G j j j)));show af.N (bt.node (h:=.call 7 id) (aa:=[e,o]) j (cQ.cons m (cQ.one l)) (a9 (a9 j (uA u f)) (a9 (FW m) (a9 (FW l) j))) j j j j j (bI G j j j))
def B_(G:d<=2)(g:e0 C d c6)(e5:e0 C 0 c6):e0 C (d+1) (c6+6):= #[TU G g e5,Zt G g e5,abQ G g e5,WW G g,Of G g,V1 G g,OR G g]
theorem e0.le{wn:Nat}(g:e0 C d c6)(z:c6<=wn):e0 C d wn:= #[λp O=>g.int p (ao z O),λp O=>g.ref p (ao z O),λp O=>g.str p (ao z O),λp O=>g.obj p (ao z O),λp O=>g.arr p (ao z O),λp O=>g.may p (ao z O),λp O=>g.Av p (ao z O)]
def B9:e0 C 1 9:=B_ () sK sK
def oo:e0 C 2 15:=B_ () B9 (sK.le ())
def xU:e0 C 3 21:=B_ () oo (sK.le ())
end
section
variable{a6:M V}
def ys:bH:= #[24,19,9,1]
def q7:bH:= #[43,42,20000,68]
structure tQ(e:ah):Prop where
 ty:la e=L
 Xa:sT e=L
 cJ:kN ys (fy e) (cO e) (fa e) (fK e)
abbrev qj:V->Prop:=hO Good
theorem bt.good{n:Int}{l:bH}(a:bt n l v)(O:i4 n=L)(T:l.le q7=L):qj v:=by
 cases a with
 |mk Q r=>have D:=r.cJ.le T;show#[Q,DM r.ty (r.aQ.symm▸O) D.f D.m D.z D.g]
theorem J7(z:bt 13 k5 v):hO tQ v:=by cases z with|mk Q r=>show#[Q,r.ty,by unfold sT;rw[r.aQ,r.cat];rfl,r.cJ.le j]
def ab7{o:Nat}(g:e0 C d c6)(O:c6<=k+2)(r:((pW d).up 3 0).le ys=L)(p:b' (dA d) 27=L):tV o 27 tQ R (DL C (k+2) o ↑((d+1:Nat):Int)):=λb H h c z=>by
 show bz.d7 () λa e e=>bz.aV (λe=>?_) λe=>bz.aV (λe=>?_) λe=>bz.eq ?_ (aN (M.G _) (funext λq=>C4))
 .show bz.aD (bz.oD (m:=M.N (V.J [↑2,↑13,↑8])) (S:=λB=>B) (af.N (bt.aj j)) c (λB x=>J7 x) λQ v=>z Q _ v) (e3 () b)
 .show bz.aD (bz.oD (S:=λB=>B) (pJ (k:=k) (aQ:=13) j) c (λB x=>J7 x) λQ v=>z Q _ v) (e3 () b)
 .show bz.oD (P:=tQ) (S:=λE=>.J [↑19,↑12,E,↑4,↑0]) (af.aD (g.int _ O) (cc p)) c (λB x=>?_) λQ v=>z Q _ v;cases x with
  |mk Q s=>have T:Ty 12 ys (.mk (.ew 12 4 0) [Q]):=Ty.node1 s (hI.mpr (.inl (s.aQ.symm▸j))) j j j j r;show hO.mk (.mk (.ew 12 4 0) [Q]) #[T.ty,hI.mpr (.inr (a9 j (ep s))),T.cJ]
def Dx{d:Nat}(o:b' 2 n=L)(b:b' n 4=L){x:V}:o' d 0 n tQ qj (uR x d) (az C (k+2) oU [1] 48) []:=λH a A t c=>by
 let c:H.length=n:=c;let e:H.length<=4:=c▸cc b;let T:=cQ.all (q:=ys) (λQ (v:tQ Q)=> #[v.ty,v.cJ]) j H t;let D:=T.cJ;show bz.eq (bz.J (ao e ()) ?_) (SI ..);let i:=Nat.sub_le_sub_right e 2;let s:Good (.mk .bV H):=DM (a9 (a9 (a9 (c▸o) (j'.mpr λQ h=>(t Q h).Xa)) (j2.mpr (ao e ()))) T.ty) j
  (ao (i6 (c_ D.f 4) (nD 4 i)) (show 24+4+4*(4-2)<=43 by decide)) (ao (i6 (c_ D.m 3) (nD 3 i)) (show 19+3+3*(4-2)<=42 by decide))
  (ao (i6 (c_ (ao D.z (afF 9 e)) 1) i) ()) (ao (ao D.g (afF 1 e)) ())
 show af.N (hO.mk (.mk .bV H) s)
theorem ab6(O:9<=k+2):af 200 (ag C (k+3) oU [⇑2,↑((1+1:Nat):Int)]) qj:=by
 show af.eq (af.lE (aa:=[]) λd=>bz.d7 () λr c a=>?_) (SH _);let e:=ab7 (o:=d) (R:=qj) (B9 (C:=C)) O j j;obtain Q|Q|Q:=yW c a<;>subst Q
 .show bz.aD (bz.yE (aA:=0) (m:=1) () j (Bi _ · d) (Bj _ · · · d) e (Dx j j)) ()
 .show bz.aD (bz.yE (aA:=0) (m:=2) () j (Bi _ · d) (Bj _ · · · d) e (Dx j j)) ()
 .show bz.aD (bz.yE (aA:=0) (m:=3) () j (Bi _ · d) (Bj _ · · · d) e (Dx j j)) ()
end
section
variable{a6:M V}
theorem af.good{m:M V}{n:Int}{l:bH}(t:af aA m (bt n l))(T:b' aA 1000=L)(O:i4 n=L)(o:l.le q7=L):af 1000 m qj:=af.imp (af.aD t (cc T)) λB x=>x.good O o
def AT{n:Int}{l:bH}(O:15<=k+1)(r:Ty n l e)(z:(i4 n&& !↥(n=13))=L)(T:l.le #[36,28,58,3]=L):af 100 ((ag C (k+2) "_law_seq" [⇑2,↑2,ax e]).G M.N) qj:=af.l4 (af.imp (Le (d:=2) (eJ:= #[40,31,84,6]) (sK.le (wn:=15) ()) O (oo.int _ O) (r.le T) z j j) λB x=>x.good (aw z).1 j)
theorem Qt{t:Int}(O:30<=k):af 1000 (ag C (k+1) "_law_drawn" [⇑2,↑t]) qj:=by
 obtain⟨k,rfl⟩:∃Y,k=Y+4:= #[k-4,(ie (ao () O)).symm];let o:15<=k+4:=ao () O;let M:21<=k+4:=ao () O;let i:15<=k+3:=el (ao () O);let A:15<=k+2:=el (el (ao () O));let l:=oo.int (C:=C) (k+4) o;let x:=(B9.le (wn:=15) ()).int (C:=C) (k+4) o;let f:=oo.may (C:=C) (k+4) o;let u:e0 C 0 15:=sK.le ();show af.eq (af.aV (λp=>af.jg (af.l4 ?_)) λp=>af.aV (λp=>af.sy ?_) λp=>af.aV (λp=>af.sy ?_) λp=>af.aV (λp=>af.l4 ?_) λp=>af.aV (λp=>af.jg ?_) λp=>af.aV (λp=>af.l4 ?_) λp=>af.aV (λp=>af.xI (af.d7 () λD c z=>af.op (Cy c z) λn m=>?_)) λp=>af.aV (λp=>af.xI ?_) λp=>af.aV (λp=>?_) λp=>af.aV (λp=>af.l4 ?_) λp=>af.aV (λp=>af.l4 ?_) λp=>af.l4 ?_) (Sc t)
 .show af.good (Ch (d:=2) (k:=k+1) () oo u A j) j j j
 .show af.good (af.one (h:=.k4) (g4:=19) (eJ:=q7) l (λE=>j) (λE t=>ep t) j j j j j) j j j
 .show af.aD (aA:=27+96+27) (af.ty x λE a=>af.ty l λy b=>af.t0 x λg e=>?_) ();show af.N (bt.good (bt.node (eJ:=q7) (h:=.iS) (aa:=[E,y,g]) j (cQ.cons a (cQ.cons b (cQ.one e))) (a9 (ep a) (a9 (ep b) (a9 (ep e) j))) j j j j j j) j j)
 .show af.good (Gy (d:=2) (k:=k+2) () oo i) j j j
 .show af.good (af.one (h:=.as) (g4:=16) (eJ:=q7) (oo.obj _ o) (λE=>j) (λE t=>ep t) j j j j j) j j j
 .show af.good (xU.obj _ M) j j j
 .show af.good (I4 (aQ:=20) (eJ:=q7) f f (hI.mpr (.inl (a9 j m))) j) j j j
 .show af.good (af.one (h:=.ix) (g4:=20) (eJ:=q7) (xU.may _ M) (λE=>j) (λE t=>ep t) j j j j j) j j j
 .show af.aD (aA:=100+96+96+96) (af.ty (oo.obj _ o) λE a=>af.ty (oo.str _ o) λy b=>af.ty f λg e=>af.d7 () λD c z=>?_) ();obtain Q|Q|Q:=yW c z<;>subst Q
  .rw[gf 0 0 j () j];show AT (k:=k+2) i a j j
  .rw[gf 1 1 j () j];show AT (k:=k+2) i b j j
  .rw[gf 2 2 j () j];show AT (k:=k+2) i e j j
 .show af.aD (ab6 (k:=k+1) (ao () i)) ()
 .show af.good (xU.str _ M) j j j
 .show af.good (xU.int _ M) j j j
end
def a1:ah:=.mk (.aj 7 1) []
def vN:ah:=.mk (.cb 7) [.mk (.aj 7 2) []]
def y4:ah:=.mk (.ew 12 4 0) [a1]
def Mm:ah:=.mk (.aj 20 6) []
def Ml:ah:=.mk (.call 7 1) [a1]
def Mk:ah:=.mk (.aj 19 5) []
def ob:List ah:=[.mk (.new 16 2) [y4,.mk .ref [.mk .c8 [Mk,a1]],.mk .ref [a1],Mm,.mk (.this 18) [],vN,a1],
 .mk (.lift 20 "+") [Mm,.mk .ix [.mk (.cb 20) [a1]]],
 .mk (.seq 19) [.mk .iS [a1,vN,a1],Ml,.mk (.dJ 1) [vN],Ml],
 .mk (.hg 3) [.mk .as [.mk (.cb 12) [a1]]],
 .mk .k4 [.mk (.ew 7 7 0) [.mk (.cb 20) [a1]]],
 .mk .bV [y4,.mk (.aj 13 8) [],.mk (.ew 12 4 0) [vN],y4],
 .mk (.bin "-") [.mk (.ew 7 5 0) [.mk (.aj 12 7) []],.mk (.ew 7 5 0) [.mk (.ew 12 4 0) [.mk (.bO 18) [.mk (.is 0) [y4],.mk (.this 18) [],.mk (.cb 18) [a1]]]]],
 .mk (.new 16 3) [.mk .ref [.mk .c8 [Mk,.mk (.const 7 ↑7) []]],vN]]
def RF{x:cX}{R:List O}:ag C (k+1) "_law_fixed" [⇑2] (cB x a i c++R)=.ok ⇑(cB x a i c++R).length (cB x a i c++R++[.list (bi ob)]):= #[]
def A_(Q:ah):Bool:=la Q&&i4 Q.kind&&b' (fy Q) 43&&b' (cO Q) 42&&b' (fa Q) 20000&&b' (fK Q) 68
def Rw(z:A_ e=L):Good e:=by unfold A_ at z;simp only[Nm] at z;obtain⟨⟨⟨⟨⟨f,o⟩,M⟩,b⟩,O⟩,g⟩:=z;show DM f o (cc M) (cc b) (cc O) (cc g)
def RG:ob.all A_=L:= #[]
def RH:∀Q∈ob,Good Q:=λQ V=>Rw (j'.mp RG Q V)
variable{o0 lG:O}
def JW:Int->List V->List (V×V)
 |_,[]=>[]
 |n,v::r=>(v,↑n)::JW (n+1) r
def Uj:List V:=[↑1,↑1,↑1,↑1,↑1,↑1,↑1,↑1,↑1,↑1,↑1,↑1,↑1,↑1,↑1,↑1,↑1,↑1,↑1,↑2,↑2,↑1]
def Ul:List V:=[↑1,↑1,↑1,↑1,↑1,↑1,↑1,↑1,↑1,↑1,↑1,↑1,↑1,↑1,↑1,↑1,↑1,↑1,↑1,↑2,↑2,↑2]
def Uk:List V:=[↑0,↑0,↑0,↑0,↑0,↑0,↑0,↑0,↑0,↑0,↑0,↑0,↑0,↑0,↑0,↑0,↑0,↑0,↑0,↑0,↑0,↑0]
def mC(b G p:O):cX:= #[b,G,.ef (JW 0 Ki),.list Uj,.list Ul,.list Uk,p]
def UG:ag (aH sc) (k+12) "_law_kinds" [⇑2] [o0,lG,.aX [("at",↑0),("ids",↑3)]]=.ok .none ((cB (mC o0 lG o0) 0 3 0).take 10):= #[]
abbrev b4:ap:=[("script",.C 3)]
abbrev cp:ap:=[("script",.C 3),("nums",⇑1)]
abbrev fz:ap:=[("script",.C 3),("nums",⇑1),("g",⇑2)]
abbrev dV:ap:=[("script",.C 3),("nums",⇑1),("g",⇑2),("sp",⇑11)]
def aej:ag C (k+1) b9 [.C 3]=cg C k b9 [0] 49 b4 (az C k b9 [0] 49):=by ac_rfl
theorem aek(c:ap->M V):cg C k b9 [0] 49 b4 c=(gy C (.C 3) au (I ↑4)).G λd=>(nu d).G λf=>s6 (λB h=>(bQ C .Mod B ↑1000003).G h) (λO=>match aU O.length with
 |true=>(M.new (.list O)).G λi=>c [("script",.C 3),("nums",⇑i)]
 |false=>M.ab) f:= #[]
def ael(Y:ap):az C k b9 [0] 49 Y=cg C k b9 [1] 48 Y (az C k b9 [1] 48):= #[]
def aem(c:ap->M V):cg C k b9 [1] 48 cp c=(M.new (.aX [("at",↑0),("ids",↑3)])).G λi=>c [("script",.C 3),("nums",⇑1),("g",⇑i)]:= #[]
def aen(Y:ap):az C k b9 [1] 48 Y=cg C k b9 [2] 47 Y (az C k b9 [2] 47):= #[]
def aeo(c:ap->M V):cg C k b9 [2] 47 fz c=(ag C k "_law_kinds" [⇑2]).G λa=>c fz:= #[]
def aep(Y:ap):az C k b9 [2] 47 Y=cg C k b9 [3] 46 Y (az C k b9 [3] 46):= #[]
def aeq(c:ap->M V):cg C (k+3) b9 [3] 46 fz c ((cB (mC o0 lG o0) 0 3 0).take 10)=c dV ((cB (mC o0 lG o0) 0 3 0).take 12):= #[]
def aer(Y:ap):az C k b9 [3] 46 Y=cg C k b9 [4] 45 Y (az C k b9 [4] 45):= #[]
def aeu(c:ap->M V):cg C k b9 [4] 45 dV c=(gy C ⇑1 au (I ↑2)).G λd=>hZ (a5 C k b9 [4] 44) dV c d:= #[]
def y0(C:List O)(U:V)(h:M V):M V:=(mY C ⇑11 "count").G λa=>(bQ C .Mod U ↑3).G λb=>(bQ C .Add a b).G λr=>(oF ⇑11 "count" r).G λc=>h
abbrev er(U:V):ap:=[("script",.C 3),("nums",⇑1),("g",⇑2),("sp",⇑11),("n",U)]
def aes(U:V)(c:ap->M V):a5 C k b9 [4] 44 U dV c=y0 C U (c (er U)):= #[]
def aet(U m:V)(c:ap->M V):a5 C k b9 [4] 44 U (er m) c=y0 C U (c (er U)):= #[]
def aev(Y:ap):az C k b9 [4] 45 Y=cg C k b9 [5] 44 Y (az C k b9 [5] 44):= #[]
def aeA(c:ap->M V):cg C k b9 [5] 44 dV c=(ag C k "_law_fixed" [⇑2]).G λd=>hZ (a5 C k b9 [5] 43) dV c d:= #[]
def aeB(U:V)(c:ap->M V):cg C k b9 [5] 44 (er U) c=(ag C k "_law_fixed" [⇑2]).G λd=>hZ (a5 C k b9 [5] 43) (er U) c d:= #[]
def rk(C:List O)(k:Nat)(Q:V)(h:M V):M V:=(ag C k ck [⇑2,⇑11,Q]).G λv=>(dp C v).G λb=>match !b with
 |true=>M.N (.bool ak)
 |false=>h
abbrev dW(Q:V):ap:=[("script",.C 3),("nums",⇑1),("g",⇑2),("sp",⇑11),("e",Q)]
abbrev ed(U Q:V):ap:=[("script",.C 3),("nums",⇑1),("g",⇑2),("sp",⇑11),("n",U),("e",Q)]
abbrev ee(Q U:V):ap:=[("script",.C 3),("nums",⇑1),("g",⇑2),("sp",⇑11),("e",Q),("n",U)]
def aew(Q:V)(c:ap->M V):a5 C k b9 [5] 43 Q dV c=rk C k Q (c (dW Q)):= #[]
def aex(Q t:V)(c:ap->M V):a5 C k b9 [5] 43 Q (dW t) c=rk C k Q (c (dW Q)):= #[]
def aey(U Q:V)(c:ap->M V):a5 C k b9 [5] 43 Q (er U) c=rk C k Q (c (ed U Q)):= #[]
def aez(U Q t:V)(c:ap->M V):a5 C k b9 [5] 43 Q (ed U t) c=rk C k Q (c (ed U Q)):= #[]
def Mg(Y:ap):az C k b9 [5] 44 Y=cg C k b9 [6] 43 Y (az C k b9 [6] 43):= #[]
def aeF(Q:V)(c:ap->M V):cg C k b9 [6] 43 (dW Q) c=hZ (a5 C k b9 [6] 42) (dW Q) c ⇑1:= #[]
def aeG(U Q:V)(c:ap->M V):cg C k b9 [6] 43 (ed U Q) c=hZ (a5 C k b9 [6] 42) (ed U Q) c ⇑1:= #[]
def vG(C:List O)(k:Nat)(U:V)(h:M V):M V:=(bQ C .FloorDiv U ↑12).G λa=>(dd C ⇑2 (.str "at") a).G λb=>(bQ C .Mod U ↑12).G λm=>(ag C k "_law_drawn" [⇑2,m]).G λe=>rk C k e h
def aeC(Q U:V)(c:ap->M V):a5 C k b9 [6] 42 U (dW Q) c=vG C k U (c (ee Q U)):= #[]
def aeD(Q U m:V)(c:ap->M V):a5 C k b9 [6] 42 U (ee Q m) c=vG C k U (c (ee Q U)):= #[]
def aeE(Q U m:V)(c:ap->M V):a5 C k b9 [6] 42 U (ed m Q) c=vG C k U (c (ed U Q)):= #[]
def aeH(Q:V):az C k b9 [6] 43 (dW Q)=M.N (.bool L):= #[]
def aeI(Q U:V):az C k b9 [6] 43 (ed U Q)=M.N (.bool L):= #[]
variable{tz:Type}{kk:tz->V}
section
variable{o:Nat}{x:cX}
theorem Lq(z:(∃Y,v= ⇑Y)\/∃Y,v=.C Y){n:Int}(u:0<=n)(f:n<=1000)(b:dx C D v=I (.list vs))(c:vs.length<=4000000):gy C v au (I ↑n) D=.ok ⇑D.length (D++[.list (vs.take n.toNat)]):=by
 let a:fI (I ↑n)=I (I n):=by split (match c7 n with|true=>I (I n)|false=>au)=_;rw[q' u ()]
 let d:gy C v au (I ↑n) D=(match fI au,fI (I ↑n) with
  |some B,I J=>match dx C D v with
   |some (.list vs)=>match aU vs.length with
    |true=>match hV B J vs with
     |some q=>(M.new (.list q)).G λn=>M.N ⇑n
     |none=>M.ab
    |false=>M.ab
   |_=>M.ab
  |_,_=>M.ab:M V) D:=by
  obtain⟨Y,rfl⟩|⟨Y,rfl⟩:=z<;>rfl
 let U:hV au (I n) vs=I (vs.take n.toNat):=by split (match↥((0:Int)<=0),↥(0<=n) with|true,L=>I ((vs.take n.toNat).drop 0)|_,_=>au)=_;rw[cW (kD 0),cW u];rfl
 rw[d,a,b];split (match aU vs.length with
  |true=>match hV au (I n) vs with
   |some q=>(M.new (.list q)).G λn=>M.N ⇑n
   |none=>M.ab
  |false=>M.ab:M V) D=_
 rw[g0 c,U];rfl
def abG(z:D[o]?=I (.list vs))(c:vs.length<=4000000):nu ⇑o D=.ok (.kZ o vs.length) D:=congrFun ((qR (f:=λvs=>match aU vs.length with|true=>M.N (gs.kZ o vs.length)|false=>M.ab) z).trans (mt (g0 c))) D
theorem FV{x:List V}(z:x++v::r=a6):a6[x.length]?=I v:=by rw[<-z,kE (bq _),p9];rfl
def IV{x:List V}(z:x++[]=a6):a6.length<=x.length:=ds (aN y7 (z.symm.trans (dS _)))
def Wa{t:V->(V->M aC)->M aC}{h:List V->M aC}(z:D[o]?=I (.list a6))(s:a6.length<=av):nh t o 0 av h D=h [] D:=congrFun ((qR (f:=λO=>match b' O.length av with|true=>h []|false=>M.ab) z).trans (mt (j2.mpr s))) D
def V'{t:V->(V->M aC)->M aC}{h:List V->M aC}(z:D[o]?=I (.list a6))(s:a6[av]?=I v):nh t o (n+1) av h D=t v (λu=>nh t o n (av+1) λe=>h (u::e)) D:=congrFun ((qR (f:=λO=>match O[av]? with|some v=>t v (λu=>nh t o n (av+1) λe=>h (u::e))|none=>h []) z).trans (by rw[s])) D
theorem Wc{m:Int}(i:0<m)(z:D[o]?=I (.list a6))(T:List Int):∀(x:List V)(h:List V->M aC),x++T.map V.int=a6->nh (λB h=>(bQ C .Mod B ↑m).G h) o T.length x.length h D=h (T.map λu=>V.int (u%m)) D:=by
 induction T with
 |nil=>show λx h a=>Wa z (IV a)
 |cons e T w=>intro x h a;show(V' z (FV a)).trans ?_;let k:=w (x++[↑e]) (λb=>h (↑(e%m)::b)) ((ez x [↑e] (T.map V.int)).trans a);rw[cu] at k;rw[mod_int i,a_];show k
def Mc(U:Int)(h:M V)(H:List O):y0 C ↑U h (cB x a i c++H)=h (cB x a i (c+U%3)++H):=by
 unfold y0;let f:mY C ⇑11 "count" (cB x a i c++H)=.ok ↑c (cB x a i c++H):=by rfl'
 let o:∀q,oF ⇑11 "count" ↑q (cB x a i c++H)=.ok bL (cB x a i q++H):=λq=>by rfl'
 rw[a8 f,mod_int (),a_,add_int,a_,a8 (o _)]
inductive z3{tz:Type}(b8:ap->M V)(k:Nat->aG->Prop)(b:ap->Prop)(l:List tz)(Y:ap)(R:bA V):Prop
 |mk (u:ap) (aR:aG) (e:R=b8 u aR) (i:k 0 aR) (h:l=[]/\u=Y\/b u):z3 b8 k b l Y R
inductive z4(c6:ap->aG->(ap->M V)->Prop)(k:Nat->aG->Prop)(b:ap->Prop)(n:Nat):Prop
 |mk (u:ap) (aR:aG) (e:∀K,c6 u aR K) (i:k n aR) (h:b u):z4 c6 k b n
theorem VI{TT:List tz}{t:V->ap->(ap->M V)->M V}(k:Nat->aG->Prop)(n b:ap->Prop)(g:∀U D,k U D->D[o]?=I (.list a6))(step:∀r∈TT,∀U D Y,k (U+1) D->n Y\/b Y->z4 (λu E h=>t (kk r) Y h D=h u E) k b U)(T:List tz):∀(x:List V)(D:aG)(Y:ap),(∀r∈T,r∈TT)->x++T.map kk=a6->k T.length D->n Y\/b Y->z3 b8 k b T Y (h5 t o T.length x.length Y b8 D):=by
 induction T with
 |nil=>show λx D Y q m J c=> #[Y,D,BZ (g _ _ J) (IV m),J,.inl #[j,j]]
 |cons e T w=>intro x D Y A m J c;obtain⟨l,p,f,s,bs⟩:=step e (A e (.head _)) T.length D Y J c;let a:=w (x++[kk e]) p l (λr z=>A r (.tail _ z)) ((ez x [kk e] (T.map kk)).trans m) s (.inr bs);rw[cu] at a;obtain⟨u,E,d,H,i⟩:=a;show#[u,E,(BY (g _ _ J) (FV m)).trans ((f _).trans d),H,.inr (i.elim (λz=>z.2▸bs) id)]
def B6{f:V->ap->(ap->M V)->M V}{l:List tz}(k:Nat->aG->Prop)(n b:ap->Prop)(g:∀U s,k U s->s[o]?=I (.list (l.map kk)))(step:∀r∈l,∀U s Y,k (U+1) s->n Y\/b Y->z4 (λu E h=>f (kk r) Y h s=h u E) k b U){Y:ap}(J:k l.length s)(c:n Y\/b Y):z3 b8 k b l Y (hZ f Y b8 ⇑o s):=by obtain⟨u,E,Q,i,q⟩:=VI (b8:=b8) k n b g step l [] s Y (λa z=>z) j J c;show#[u,E,?_,i,q];rw[I7 (g _ _ J),fU];show Q
theorem LU(d:Good e)(O:44<=k)(w:dT x a i c D):∃y p,(∀h:M V,rk (aH sc) k (ax e) h D=h y)/\dT x a i p y/\D.length<=y.length/\∀Y,13<=Y->Y<D.length->y[Y]?=D[Y]? :=by obtain⟨k,rfl⟩:∃Y,k=Y+3:= #[k-3,(ie (ao () O)).symm];obtain⟨y,p,f,q⟩:=aav (sc:=sc) (k:=k) d (vS (b:=3) O) w;show#[y,p,λh=>?_,q];unfold rk;rw[a8 f];rfl
theorem Wk{U:Int}{A:Nat}(u:0<=U)(f:U<1000003)(O:44<=k)(a:hL x c (A+1000) D):∃y p,(∀h:M V,vG (aH sc) k ↑U h D=h y)/\hL x p A y:=by obtain⟨E,i,w,o,ac,b,aa⟩:=a;obtain⟨H,Q⟩:=w;subst Q;obtain⟨k,rfl⟩:∃Y,k=Y+1:= #[k-1,(ie (ao () O)).symm];let kQ:U/12<1000003:=nM (Int.ediv_le_self _ u) f;obtain⟨B,z,G,e,_,l⟩:=Qt (C:=aH sc) (k:=k) (t:=U%12) (ao () (el O)) x c A (cB x (U/12) i c++H) #[_,i,#[H,j],Int.ediv_nonneg u (),kQ,b,aa];obtain⟨Q,ev,s⟩:=l.ex;subst ev;obtain⟨v,ab,r,g,T,m,q⟩:=e;obtain⟨N,n,d,J,_⟩:=LU (sc:=sc) (k:=k+1) s O r;show#[N,n,λh=>?_,#[v,ab,J,g,T,m,q]];unfold vG;rw[GF (Du u f).1 (q' () ()) (),a_,a8 (Lk H),mod_int (),a_,a8 G];show d h
end
variable{ns:List Int}
section
variable{o:Nat}{x:cX}
theorem Ot(z:sc.length<=63):∃(b:O)(e:List Int),ag (aH sc) (k+1) b9 [.C 3] []=az (aH sc) k b9 [0] 49 cp [b,.list (e.map V.int)]/\e.length<=4/\∀U∈e,0<=U/\U<1000003:=by
 show#[.list ((sc.map V.int).take 4),(sc.take 4).map λU=>U%1000003,?_,by rw[fU,vP];omega,λU v=>by obtain⟨a,_,rfl⟩:=tj.mp v;omega];let c:((sc.map V.int).take 4).length=(sc.take 4).length:=by rw[vP,vP,fU]
 let h:(sc.take 4).length<=4:=by rw[vP];omega
 let f:gy (aH sc) (.C 3) au (I ↑4) []=.ok ⇑0 [.list ((sc.map V.int).take 4)]:=Lq (.inr #[3,j]) (n:=4) () () (vs:=sc.map V.int) j (by rw[fU];omega);let d:=abG (D:=[O.list ((sc.map V.int).take 4)]) (o:=0) j ();rw[aej,aek,a8 f,a8 d,c];split nh _ 0 (sc.take 4).length ([]:List V).length _ _=_;rw[Wc (m:=1000003) (a6:=(sc.map V.int).take 4) () j (sc.take 4) [] _ (by rw[List.nil_append,afm]),fU,g0 ()];dsimp only;rw[kq,List.map_map];rfl
def Ou:az (aH sc) (k+12) b9 [0] 49 cp [o0,lG]=az (aH sc) (k+12) b9 [3] 46 dV ((cB (mC o0 lG o0) 0 3 0).take 12):=by let Q:([o0,lG]++[O.aX [("at",↑0),("ids",↑3)]])=[o0,lG,.aX [("at",↑0),("ids",↑3)]]:=j;rw[ael,aem,kq,Q];split az (aH sc) (k+12) b9 [1] 48 fz _=_;rw[aen,aeo,a8 UG,aep,aeq]
abbrev wb(Y:ap):Prop:=∃m,Y=er m
theorem Ov(e:ns.length<=4):∃p Y g,az C k b9 [3] 46 dV ((cB (mC o0 (.list (ns.map V.int)) o0) 0 3 0).take 12)=az C k b9 [4] 45 Y (cB (mC o0 (.list (ns.map V.int)) p) 0 3 g)/\(Y=dV\/wb Y):=by
 let d:=Lq (C:=C) (D:=(cB (mC o0 (.list (ns.map V.int)) o0) 0 3 0).take 12) (v:= ⇑1) (.inl #[1,j]) (n:=2) () () (vs:=ns.map V.int) j (by rw[fU];omega);let s:(ns.map V.int).take (2:Int).toNat=(ns.take 2).map V.int:=by rw[afm];rfl
 rw[aer,aeu,a8 d];rw[s] at*;let a:(cB (mC o0 (.list (ns.map V.int)) o0) 0 3 0).take 12++[O.list ((ns.take 2).map V.int)]=cB (mC o0 (.list (ns.map V.int)) (.list ((ns.take 2).map V.int))) 0 3 0++[]:=by rw[dS];rfl
 rw[a];obtain⟨u,E,G,⟨g,rfl⟩,q⟩:=B6 (o:=12) (f:=a5 C k b9 [4] 44) (b8:=az C k b9 [4] 45) (l:=ns.take 2) (kk:=V.int) (λi b=>∃g,b=cB (mC o0 (.list (ns.map V.int)) (.list ((ns.take 2).map V.int))) 0 3 g++[]) (λY=>Y=dV) wb (λU b #[g,z]=>by rw[z];rfl) (λr i U b Y #[g,z] c=>by
  subst z;show#[er ↑r,cB _ 0 3 (g+r%3)++[],λh=>?_,#[_,j],#[_,j]];obtain rfl|⟨m,rfl⟩:=c
  .rw[aes,Mc]
  .rw[aet,Mc]) #[0,j] (.inl j)
 show#[.list ((ns.take 2).map V.int),u,g,?_,q.imp (λz=>z.2) id];show G
abbrev qd(Y:ap):Prop:=(∃e,Y=dW e)\/∃n e,Y=ed n e
theorem Oi(w:dT x a i c D):D[1]?=I x.lG:=by obtain⟨H,rfl⟩:=w;rfl'
theorem S8{Y:ap}(O:43<=k)(z:Y=dV\/wb Y):∃u y p,az (aH sc) (k+1) b9 [4] 45 Y (cB x a i c)=az (aH sc) (k+1) b9 [5] 44 u y/\dT x a i p y/\qd u:=by
 let s:=RF (C:=aH sc) (k:=k) (x:=x) (a:=a) (i:=i) (c:=c) (R:=[]);rw[dS,r5] at s;let d:cg (aH sc) (k+1) b9 [5] 44 Y (az (aH sc) (k+1) b9 [5] 44) (cB x a i c)=hZ (a5 (aH sc) (k+1) b9 [5] 43) Y (az (aH sc) (k+1) b9 [5] 44) ⇑13 (cB x a i c++[.list (bi ob)]):=by
  obtain rfl|⟨m,rfl⟩:=z
  .rw[aeA,a8 s]
  .rw[aeB,a8 s]
 obtain⟨u,E,G,⟨p,b,_⟩,q⟩:=B6 (o:=13) (f:=a5 (aH sc) (k+1) b9 [5] 43) (b8:=az (aH sc) (k+1) b9 [5] 44) (l:=ob) (kk:=ax) (λB D=>∃p,dT x a i p D/\D[13]?=I (.list (ob.map ax))) (λY=>Y=dV\/wb Y) qd (λU D #[c,_,z]=>z) (λr A U D Y #[c,w,z] v=>by
  obtain⟨N,n,d,J,cp,g⟩:=LU (sc:=sc) (k:=k+1) (RH r A) () w;let e:N[13]?=I (.list (ob.map ax)):=by rw[g 13 () (c5.mp z).1];show z
  obtain(rfl|⟨m,rfl⟩)|⟨Q,rfl⟩|⟨m,Q,rfl⟩:=v
  .show#[dW (ax r),N,λh=>by rw[aew,d],#[n,J,e],.inl #[_,j]]
  .show#[ed m (ax r),N,λh=>by rw[aey,d],#[n,J,e],.inr #[_,_,j]]
  .show#[dW (ax r),N,λh=>by rw[aex,d],#[n,J,e],.inl #[_,j]]
  .show#[ed m (ax r),N,λh=>by rw[aez,d],#[n,J,e],.inr #[_,_,j]]) #[c,#[[.list (bi ob)],j],by rw[<-w4];show dU (cB x a i c) _] (.inl z)
 show#[u,E,p,by rw[aev,d,G],b,by
  obtain⟨t,_⟩|z:=q
  .show cH t (by unfold ob;nofun)
  .show z]
abbrev zH(Y:ap):Prop:=∃e n,Y=ee e n
theorem S9{Y:ap}(C:x.lG=.list (ns.map V.int))(v:ns.length<=4)(b:∀U∈ns,0<=U/\U<1000003)(O:44<=k)(w:dT x 0 3 c D)(z:qd Y):∃y,az (aH sc) k b9 [5] 44 Y D=.ok (.bool L) y:=by
 let d:az (aH sc) k b9 [5] 44 Y D=hZ (a5 (aH sc) k b9 [6] 42) Y (az (aH sc) k b9 [6] 43) ⇑1 D:=by
  obtain⟨Q,rfl⟩|⟨m,Q,rfl⟩:=z
  .rw[Mg,aeF]
  .rw[Mg,aeG]
 obtain⟨u,E,G,_,q⟩:=B6 (o:=1) (f:=a5 (aH sc) k b9 [6] 42) (b8:=az (aH sc) k b9 [6] 43) (l:=ns) (kk:=V.int) (λU t=>∃c,hL x c (1000*U) t) qd (λT=>qd T\/zH T) (λU t #[_,_,_,w,_,_,_,_]=>by rw[Oi w,C]) (λr A U t Y #[c,a] s=>by
  obtain⟨p,g⟩:=b r A;obtain⟨N,n,d,i⟩:=Wk (sc:=sc) (k:=k) p g O a;let e:∃c,hL x c (1000*U) N:= #[n,i];let s:qd Y\/zH Y:=s.elim .inl id;obtain(⟨Q,rfl⟩|⟨m,Q,rfl⟩)|⟨Q,m,rfl⟩:=s
  .show#[ee Q ↑r,N,λh=>by rw[aeC,d],e,.inr #[_,_,j]]
  .show#[ed ↑r Q,N,λh=>by rw[aeE,d],e,.inl (.inr #[_,_,j])]
  .show#[ee Q ↑r,N,λh=>by rw[aeD,d],e,.inr #[_,_,j]]) #[c,0,3,w,by decide,by decide,by decide,by split (3:Int)+((1000*ns.length:Nat):Int)<=100000;omega] (.inl z)
 show#[E,?_];rw[d,G];let J:qd u\/zH u:=by
  obtain⟨_,rfl⟩|B:=q
  .show .inl z
  .show B
 obtain(⟨Q,rfl⟩|⟨m,Q,rfl⟩)|⟨Q,m,rfl⟩:=J
 .rw[aeH];rfl
 .rw[aeI];rfl
 .rfl
theorem UY(z:sc.length<=63)(O:45<=k):∃y,ag (aH sc) k b9 [.C 3] []=.ok (.bool L) y:=by obtain⟨k,rfl⟩:∃Y,k=Y+12+1:=sb (k:=13) (ao () O);obtain⟨b,e,f,v,m⟩:=Ot (k:=k+12) z;obtain⟨p,q,g,d,o⟩:=Ov (C:=aH sc) (k:=k+12) (o0:=b) v;obtain⟨h,l,n,s,J,E⟩:=S8 (sc:=sc) (k:=k+11) (x:=mC b (.list (e.map V.int)) p) (a:=0) (i:=3) (c:=g) () o;obtain⟨y,G⟩:=S9 (sc:=sc) (k:=k+12) j v m () J E;show#[y,by rw[f,Ou,d,<-G];show s]
def plain(a:List Int)(z:a.length<=63):∃y,jo (aH a) oc eG 45 b9 [.C 3] []=.ok (.bool L) y:=UY (k:=45) z (bq _)
end
end
end
end Internal.Mine
theorem PySem.Challenge.cw_tn0002_01_holds : PySem.Challenge.rw_tn0002_01.Holds :=
  Internal.Mine.ahx Internal.Mine.plain
