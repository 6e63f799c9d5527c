import PyProof.Rows.All
import Wide.All
import OpenK.AllK
import Wide.FinOn
import ObjForm.MakeTop
import KE.KLam
import KE.KBytesCut
import KE.KDictSum
import PyProof.Rows.SortShellK
import PyProof.Rows.SortKeyStr
import PySem.Challenge.RW_pq0650_01
set_option Elab.async false
set_option linter.all false
set_option maxRecDepth 100000
set_option genSizeOf false
set_option genInjectivity false
set_option tactic.hygienic false
set_option genCtorIdx false
set_option bootstrap.genMatcherCode false
set_option compiler.extract_closed false
noncomputable section
namespace Mine.Lake
@[elab_as_elim] theorem rr {α : Sort u} {a b : α} {motive : α → Prop} (h : a = b) (x : motive b) : motive a := Eq.substr h x
end Mine.Lake
local macro_rules (kind := Lean.Parser.Tactic.rwSeq)
  | s => do
    if s[0].getHeadInfo matches .original .. then
      if s[3].isNone then
        let t := s[2][1].getSepArgs.foldr (fun r t => Lean.Syntax.mkApp (Lean.mkIdent `Mine.Lake.rr) #[(let e := Lean.Syntax.mkApp ⟨r[1]⟩ #[⟨Lean.mkNode `Lean.Parser.Term.ellipsis #[Lean.mkAtom ".."]⟩]; if r[0].isNone then e else Lean.Syntax.mkApp (Lean.mkIdent `Eq.symm) #[e]), t]) (← `(?_))
        return ← `(tactic| (refine $t; try with_reducible rfl))
    Lean.Macro.throwUnsupported
local macro_rules (kind := Lean.Parser.Tactic.show)
  | s => do
    if s[0].getHeadInfo matches .original .. then `(tactic| refine (?_ : $(⟨s[1]⟩))) else Lean.Macro.throwUnsupported
open PyProof.Rows renaming AllBare->ad5
open PySem renaming model->abJ,Params->abK,Scope->abL,mainGlobals->abN,builtinLookup_eq_fast->abO,wpAny_loadPart_at->abP,sizeLine->abQ,World->abR,treeTable->abS,typeLookup_type->abT,starEach->abU,checkBuiltinCall->abV,builtinsNs->abW,wpAny_isSubtype_exc->abX,compareOp->abY,Model->ab0,backTo->ab1,callWith->ab2,DictEntry->ab3,typeLookup->ab5,Result->ab6,holding->ab7,standAt->ab8,assignEach->ab9,isSubtype_type->aca,SubscriptOn->acb,spliced->acd,noteFrame->ace,swappedStores->acf,IsPair->acg,bm_if_false->ach,entryFor->acj,wpAny_newObj_type->ack,storeName->acm,isTrue->acn,rawInt->aco,assignInOrder->acp,Comprehension->acq,execs->acr,theTreesLotGoes->acs,letOwnedTupleGo->acu,nsFind->acv,wpAny_setField_rec->acw,wpAny_truthy_bool->acx,OsState->acy,newFunctionEnv->acz,relabel->acA,wpAny_setField->acB,seqIndex?->acD,table->acE,unbindBehindTheSuite->acF,isInstance->acG,entryFor_of_tree->acH,wpAny_isInstance->acI,attributeBase->acJ,wpAny_execs_nil->acK,IsZip->acL,binaryOp->acM,argsOk->acN,compTurn->acP,markedBehindIn_of_false->acQ,foldedSetIterable->acR,keywordEach->acS,pyNext->acT,behindInMarks->acU,signature?_of->acV,bindName->acW,Arguments->acX,evalPairs->acY,pairTrees->acZ,seqItems?->ac0,codeAmong->ac1,setItem->ac2,swapsWith->ac3,callSpecial?->ac4,handleWith->ac5,bm_if_true->ac6,assignStores->ac7,methodCallForm->ac8,recursionLimit->ac9,valueAt->ada,callerA->adb,cLine->ade,truthy->adg,wpAny_Constant_int->adh,methodCallPos->adi,wpAny_pyIter_list->adj,sysModules->adk,wpAny_check_type_call_sub->adl,allTrue->adm,StrKeys->adn,evalArgs->ado,backToKw->adp,pyIter->adq,bindArgs->ads,handleBy->adt,wpAny_comp_letGo->adu,wpAny_madeBy_exc->adv,wpAny_getItem_list_slice->adw,wpAny_assignInOrder_none->adx,opaqueClassAbove->ady,wpAny_lookBehind->adz,wpAny_unpackItems_tuple->adA,importedModules->adB,wpAny_specialOf->adC,setFlight->adD,arm_exec_Assign->adE,cellsFrom->adF,pushCells_keeps->adG,outcomeOf->adH,excClassObj->adI,interactive->adJ,wpAny_pyNext_list_item->adK,getAttr->adL,setAttr->adM,leaving->adN,wpAny_seqItems->adO,byteArr->adP,wpAny_pyIter_listiter->adQ,wpAny_pyNext_list_end->adR,call_meets->adS,arm_assign_Subscript->adU,Draws->adV,wpAny_updateSeq_pair->adW,plainId_quiet->adX,comprehension->adY,wpAny_release->adZ,typeOf->ad0,stored->ad1,pushCells->ad2,wpAny_pyIter_tuple->ad3,TriplesOk->ad4,classAt->ad6,wpAny_sequenceKey->ad7,slot_list_setitem->ad8,wpAny_pyIter_enum->ad9,sizeLine_eq->aea,wpAny_letGo->aeb,excMatches->aec,closureFor->aed,fastLookup->aee,typeIs_str->aef
open PySem.W renaming boot_drawn->abM,segRunT->abZ,findIn->ab4,boot_heap->aci,look_both->acC,looks_findIn->acO,boot_toks->adf,handedIn->adT
open And renaming intro->aar
open Array renaming length_toList->eA,getElem?_toList->vi,getD_eq_getD_getElem?->vr,mem_toList_iff->vw,toList_append->wd,not_mem_empty->wq,size_extract->aau,toList_push->aaz,size_append->aaD,mk->aaN,toList_inj->aaV
open Bool renaming and_eq_true_iff->eJ,false_ne_true->hH,noConfusion->mn,false_eq_true->pz,or_eq_false_iff->Ha,rec->Pm,or_eq_true_iff->Y2,or_comm->aal,and_false->abg,false_or->abq,or_assoc->abr,true_or->abC
open Classical renaming byContradiction->ae
open ForInStep renaming yield->oa
open Int renaming natCast_nonneg->eI,fdiv->ib,ofNat_lt->js,ofNat_le->kV,add_nonneg->pv,not_lt->ro,fmod->rx,le_trans->u3,toNat_of_nonneg->wx,lt_trans->xi,toNat_natCast->zt,natCast_add->FX,natAbs_eq_zero->H4,natAbs_fdiv_le_natAbs->L9,fmod_nonneg_of_pos->RF,natAbs_neg->TC,sub_nonpos_of_le->Xt,natAbs_of_nonneg->X1,le_natAbs->Yf,add_assoc->YP,add_zero->aak,le_of_lt->aap,natAbs_natCast->aav,natAbs_add_le->aaF,not_le->aa4,natCast_pos->aba,mul_ne_zero->abc,neg_le_neg->abi,natAbs_mul->abm,ofNat->abo
open Int.ofNat renaming inj->abz
open List renaming mem_cons_self->bj,mem_cons_of_mem->cb,range->cc,mem_cons->de,length_map->df,length_append->dk,forall_mem_cons->du,mem_map->dy,mem_singleton->dC,append_assoc->eD,not_mem_nil->eP,all_eq_true->fi,append_nil->gn,contains_cons->hU,forIn_cons->ij,nodup_cons->iq,mem_flatMap->ka,reverse_cons->kb,mem_append_left->lh,lookup_cons->mx,nodup_nil->mB,mem_append_right->mI,map_cons->oC,ne_of_not_mem_cons->oT,map_fst_zip->pd,any_eq_true->ph,forIn_nil->pj,not_mem_of_not_mem_cons->pk,any_eq_false->q0,getElem?_map->rh,mem_range->rp,map_append->th,zip_append->tA,filterMap_cons->wi,mem_append->w0,length_nil->w8,nil_append->xc,nodup_append->zi,any_cons->Dx,mem_iff_getElem?->Fm,mem_filter->FR,map_nil->Hc,mem_filterMap->H5,forall_mem_singleton->Kt,mem_reverse->NA,flatMap_map->OK,take_append_drop->Sr,drop_zero->Ta,mem_of_mem_take->U2,zip_cons_cons->aam,size_toArray->aay,flatMap_cons->aaE,lookup->aaJ,range'->aaL,map->aaS,cons_append->aaT,length_cons->aaX,map_reverse->aaZ,length_zip->aa5,foldl_cons->aa9,replicate->abh,take_zero->abj,drop_left->abk,drop_nil->abv,take_nil->abx,map_map->abB
open List.Pairwise renaming nil->abI
open List.cons renaming inj->Ki
open Nat renaming le_of_ble_eq_true->aw,beq->bo,le_trans->bt,eq_of_beq_eq_true->cq,le_add_right->cw,lt_of_le_of_lt->dA,add_le_add_left->dV,le_refl->eb,ble->eh,lt_of_lt_of_le->ey,add_le_add_right->eM,zero_add->fb,lt_succ_of_le->fo,add_assoc->fw,blt->gp,blt_eq->g0,add_right_comm->hY,mul_le_mul_left->il,le_of_eq->ke,lt_add_of_pos_right->kl,lt_succ_self->km,le_of_lt->kp,le_add_left->ky,lt_trans->kS,lt_succ_of_lt->lj,ne_of_lt->ll,beq_refl->lL,succ_pos->mf,add_comm->nr,le_of_lt_succ->og,not_lt->px,succ_le_succ->sa,succ_add_eq_add_succ->sb,add_lt_add_left->sg,max->sk,sub_add_cancel->tm,le_succ->tI,lt_of_succ_lt_succ->ui,le_of_succ_le_succ->uj,ne_of_gt->vl,lt_irrefl->vy,zero_le->v3,not_lt_zero->xa,le_of_add_le_add_left->xb,add_sub_cancel->xn,ne_of_beq_eq_false->Ap,mul_add->BM,succ_ne_zero->DD,succ_lt_succ->Ee,min_eq_left->Hb,le_antisymm->Hd,add_left_cancel->Hm,add_le_add->HI,le_of_add_le_add_right->Kb,lt_of_succ_lt->Kk,sub_zero->NM,min_self->N0,mul_succ->Pt,le_max_right->PH,le_max_left->QR,ble_eq_true_of_le->Tx,pow_lt_pow_right->XP,le_sub_one_of_lt->X2,succ_add->aaj,eq_or_lt_of_le->aao,add_left_comm->aaA,le_succ_of_le->aaB,log2_lt->aaH,le_of_not_lt->aaU,succ_ne_self->aaW,max_le->abb,add_lt_add->abn
open Nat.succ renaming inj->abD
open Ne renaming symm->Ts
open Option renaming map_eq_some_iff->eR,isSome_iff_exists->xf,map_eq_none_iff->Bn,bind_eq_some_iff->PQ,rec->XB,isSome_none->aan,elim->aaK,getD->aaM,isSome->aby,none->abE
open Option.some renaming inj->ag
open Prod.mk renaming inj->kj
open PyProof.Rows renaming getItem_tuple->IH
open PySem renaming wpAny->ax,wpAny_bind->bc,Expr->bp,wpAny_pure->cp,Env->dq,Stmt->ec,strKind->ed,Flow->fA,wpAny_call_entry->ub,wpAny_callSpecial?_slot->uk,wpAny_call->vu,codeAny_call_builtin->vT,wpAny_holding->wa,wpAny_onRaise->wt,Slot->xI,wpAny_point->y6,wpAny_of_eq->y7,codeAny_call_builtin_code->Fu,passOn->FK,codeAny->Iy,frameOf->Jn,Within->Oy,wpAny_newObj_type->Qb,codeAny_of_tree->SU,wpAny_standAt->Y1,wpAt_of_wpAny->aad,isTrue->aaq,wpAny_rule->aaO,wpAny_load->aaP,wpAny_run->aa2,wpAt_bind->aa7
open PySem.Around renaming under_plainId->FC
open PySem.Builtin.Bytes renaming fitsIndex->Qr,decodersThatHold->aa1
open PySem.Builtin.Bytes.exported renaming match_1->aas
open PySem.Builtin.Int renaming intBits->wb
open PySem.Builtin.List renaming listTooLong->Nw
open PySem.Builtin.Range renaming rangeSize->yB,small->aac,rangeFitsLong->abp
open PySem.Builtin.SmallTypes renaming nextOf->kz,ownedTupleHandOut->xp,ownedTupleIsFree->yn
open PySem.Builtin.Str renaming occurrences->QP,strKind->aag
open PySem.Builtin.Tuple renaming tupleCompareSizes->aa0
open PySem.Calls renaming Constant_str->It,spliced_nil->aaw
open PySem.Challenge renaming rw_pq0650_01->Hn,pw_pq0650_01->abd
open PySem.Code renaming quiet_builtin->ta,builtin->abA
open PySem.F renaming slot_tuple_iterator_next->my,excBase_Exception->mM,store_Exception->y4,args_tuple_iterator_next_1->zr,entry_tuple_iterator_next->Bz,slot_str_split->Q1,slot_zip_next->TB,slot_list_append->aah,slot_list_extend->aai,bm_called->aaI,slot_dict_get->aa3
open PySem.Fin renaming done->aaQ
open PySem.Flow renaming next->tx
open PySem.Heap renaming get?_push_of_some->cn,get?_push_size->da,get?_update_self->ew,ExtBut->eC,SameBut->gd,lt_size->ik,size_push->ip,get?_none_of_le->lb,get?_update_other->pw,get?_update_ne->wy,get?_push_at->y8,MadeExcOf->TK,MadeObjFk->abf
open PySem.Heap.IsList renaming push->aaR
open PySem.Heap.IsSliceOf renaming new->xl
open PySem.Heap.Ns renaming new->abF
open PySem.Heap.Ns1 renaming of_empty->aax
open PySem.Heap.SameBut renaming update->lk
open PySem.NameKind renaming free->eQ,cell->oy
open PySem.Obj renaming putNameByArray->kA,mapFields->oP,putName_eq->pa,data_mapFields->qr,mapSeq->sr,isFreed_of_fields->Fs,dropName->He,cls_mapFields->Kj,dropNameByArray->aae,mapBytearray->aaY
open PySem.Pin renaming globalOf_eq->QQ
open PySem.Sem renaming wp_mono->H0
open PySem.Shared renaming asleep_of_life->Fh,rest_eq->abe,heap->abG
open PySem.Slot renaming of->vx
open PySem.Str renaming ofString->ei
open PySem.Value renaming ref->dT,none->rk,builtin->si,str->xk,type->FV,isStrOf_shape->aab,isStrOf->abt
open PySem.W renaming call_K->hZ,pickK->Ya
open PySem.W.KBc renaming size_picked_le->aat
open PySem.W.KBw renaming IsBytesIter->aa6
open PySem.W.KBy renaming special_eq->yA,picked->aa8,buffer_eq->abw
open PySem.W.Looks renaming of_pure->abu
open PySem.W.OpenLaw renaming wellSaid->Mo
open PySem.W.SharedT renaming abs->aaG
open PySem.W.WData renaming layableAll->Md
open PySem.Within renaming cons->abH
open Std.Legacy.Range renaming forIn_eq_forIn_range'->aaf
open String renaming splitOnAux->aaC,splitOn->abl
open UInt8 renaming toNat->ki
variable{E Q:PySem.Value->PySem.Shared->Prop}{pos:PySem.Pos}{prog:PySem.Program}{i:Nat}
section
set_option maxHeartbeats 0
set_option backward.match.sparseCases false
namespace Mine.Lake
open PySem PySem.W
noncomputable def PT:Program:=abd
def bd:List Stmt:=behindTheImports PT
def top(i:Nat):Stmt:=PT.main.body.getD i (.Pass default)
noncomputable def V1:Stmt->List Stmt| .ClassDef _ _ _ b .. =>b|_=>[]
def Bh(i j:Nat):Stmt:=(V1 (top i)).getD j (.Pass default)
noncomputable def iX:Stmt->acX| .FunctionDef _ a .. =>a|_=>default
noncomputable def iY:Stmt->List Stmt| .FunctionDef _ _ b .. =>b|_=>[]
noncomputable def lu:Stmt->abL| .FunctionDef _ _ _ _ _ _ s .. =>s|_=>default
noncomputable abbrev S(x:String):Str:=ei x
noncomputable def hsh(P:abK)(x:Str):Int:=reduceHash (P.strHash x.cps)
def en(P:abK)(x:Str)(t:Nat)(v:Value):ab3:=⟨hsh P x,.str x t,v⟩
noncomputable def i0:Value:=.int 0 0
def cut(t:Nat):Value:=.str (S "/claim/cut.py") t
noncomputable def jR(vs:List Value):Obj:={cls:=.type "tuple",data:=.seq vs.toArray}
noncomputable def bA(l:List Nat):Array UInt8:=(l.map UInt8.ofNat).toArray
noncomputable def Ms(vs:List Value):Obj:={cls:=.none,data:=.fields vs.toArray}
noncomputable def QX(vs:List Value):Obj:={cls:=.type "code",data:=.fields vs.toArray}
def V5(n q:Str)(s:Stmt):Obj:={cls:=.none,data:=.func {name:=n,qualname:=q,params:=iX s,body:=.stmts (iY s),scope:=lu s,globals:=0,closure:=[],defaults:=.none,kwdefaults:=.none}}
def Qx(n q:Str)(s:Stmt)(dv md cd:Value):Obj:={cls:=.type "function",data:=.func {name:=n,qualname:=q,params:=iX s,body:=.stmts (iY s),scope:=lu s,globals:=3,closure:=[],defaults:=dv,kwdefaults:=.none,pyModule:=md,code:=cd,builtins:=0}}
noncomputable def nu(es:List ab3)(n:Nat)(o:Obj):Obj:=match o with|⟨c,d,.dict xs _,s⟩=>⟨c,d,.dict (xs.toList++es).toArray n,s⟩|o=>o
noncomputable def setAt:List ab3->List (Nat×ab3)->List ab3
 |xs,[]=>xs
 |xs,(i,e)::r=>setAt (xs.set i e) r
def V6(ch:List (Nat×ab3))(es:List ab3)(n:Nat)(o:Obj):Obj:=match o with|⟨c,d,.dict xs _,s⟩=>⟨c,d,.dict (setAt xs.toList ch++es).toArray n,s⟩|o=>o
noncomputable def K5(es:List Value)(o:Obj):Obj:=match o with|⟨c,d,.fields xs,s⟩=>⟨c,d,.fields (xs.toList++es).toArray,s⟩|o=>o
set_option genCtorIdx true in
inductive Op where
 |set (a:Nat) (f:Obj->Obj)
 |ins (a:Nat) (o:Obj)
noncomputable def Vb:BT->List Op->BT
 |t,[]=>t
 |t,.set a f::r=>Vb (t.set a f) r
 |t,.ins a o::r=>Vb (t.ins a o) r
noncomputable def mK:BT->List (List Op)->BT
 |t,[]=>t
 |t,l::r=>mK (Vb t l) r
noncomputable def kC:Stmt->Str| .FunctionDef n .. =>n|_=>default
noncomputable def xx(s:Stmt):Int:=s.pos.line
def stLoc(s:Stmt):List Str:=((lu s).names.filter λx=>x.2== .local).map (λU=>U.1)
noncomputable def Y8:Nat->List Str->List Value
 |_,[]=>[]
 |t,s::r=>.str s t::Y8 (t+1) r
def dO(P:abK)(kt k a t:Nat)(dv md:Value):List Op:=
 [.set 3 (nu [en P (kC (top kt)) (t+5+(stLoc (top kt)).length) (.ref (a+6))] k),.set 12 (K5 [.int (xx (top kt)) 0,i0,.ref (a+5)]),.ins a (jR []),.ins (a+1) (Ms []),.ins (a+2) (jR (Y8 (t+3) (stLoc (top kt)))),.ins (a+3) (jR []),.ins (a+4) (V5 (kC (top kt)) (kC (top kt)) (top kt)),
  .ins (a+5) (QX [.str (kC (top kt)) t,.str (kC (top kt)) (t+1),cut (t+2),.int (xx (top kt)) 0,.int (iX (top kt)).args.length 0,i0,i0,.int 3 0,.ref a,.bool true,.int 181 0,.ref (a+1),.none,.ref (a+2),.ref (a+3),.ref (a+4),.int (t+3+(stLoc (top kt)).length:Nat) 0,.int (xx (top kt)) 0,cut (t+4+(stLoc (top kt)).length)]),
  .ins (a+6) (Qx (kC (top kt)) (kC (top kt)) (top kt) dv md (.ref (a+5)))]
noncomputable def dR(P:abK)(md:Value):Nat->Nat->Nat->Nat->Nat->List Op
 |0,_,_,_,_=>[]
 |c+1,k,kt,a,t=>dO P kt k a t .none md++dR P md c (k+1) (kt+1) (a+7) (t+6+(stLoc (top kt)).length)
def sG:Env:={scope:=PT.main.scope,locals:=mainNs,globals:=mainNs,cells:=[],code:=.ref 13,frame:=some 14}
def iH:Code:=.body bd sG
@[reducible] noncomputable def qL:List Frame:=[topFrame ⟨0,0,0,0⟩]
noncomputable def au:Life:={}
def eK(l:List Stmt)(p:Pos):Thread:=⟨(PySem.W.Fast.tw12563942051412417395 l sG).wrap doneF deadEnd id id,iH,p,qL⟩
theorem fC:@segRunT=@PySem.W.Fast.tw10110043849684766642:=PySem.W.Fast.te10110043849684766642
theorem eT:abS=PySem.W.Fast.tw14364793385576792824:=PySem.W.Fast.te14364793385576792824
def Tb(P:abK):BT:=Vb .nil [.ins 0 (boot_o_0 P),.ins 1 (boot_o_1 P),.ins 2 (boot_o_2 P),.ins 3 (boot_o_3 P),.ins 4 (boot_o_4 P),.ins 5 (boot_o_5 P),.ins 6 (boot_o_6 P),.ins 7 (boot_o_7 P),.ins 8 (boot_o_8 P),.ins 9 (boot_o_9 P),.ins 10 (boot_o_10 P)]
def nv(P:abK)(x0:Nat)(x1:String)(x2:Nat)(x3:String)(x4:Nat)(x5:Nat)(x6:Nat):Op:=.ins x0 (QX [(.str (S x1) x2),(.str (S x3) (x2+1)),(cut (x2+2)),(.int (x4:Nat) 0),(.int (x5:Nat) 0),i0,i0,(.int 3 0),(.ref (x0-5)),(.bool true),(.int 181 0),(.ref (x0-4)),.none,(.ref (x0-3)),(.ref (x0-2)),(.ref (x0-1)),(.int (x6:Nat) 0),(.int (x4:Nat) 0),(cut (x6+1))])
def sH(P:abK)(x0:Nat)(x1:String)(x2:Nat)(x3:String)(x4:Nat)(x5:Nat):Op:=.ins x0 (QX [(.str (S x1) x2),(.str (S x3) (x2+1)),(cut (x2+2)),(.int (x4:Nat) 0),(.int (x5:Nat) 0),i0,i0,(.int 3 0),(.ref (x0-3)),(.bool true),(.int 181 0),(.ref (x0-2)),.none,.none,.none,(.ref (x0-1)),(.int ((x2+3):Nat) 0),(.int (x4:Nat) 0),(cut (x2+4))])
def Mt(P:abK)(x0:Nat)(x1:String)(x2:Nat):Op:=.ins x0 {cls:=(.type "type"),dict:=none,data:=.cls {name:=(S x1),bases:=[(.type "object")],mro:=[(.ref x0),(.type "object")],ns:=(x0-1),qualname:=(S x1),hasDict:=true,slotNames:=[],subclasses:=[],abstract:=false,collection:=none,hasDel:=false},slots:= #[none,none,some (.str (S x1) x2),some (.str (S x1) (x2+8)),some (.builtin "object.__new__"),some (.bool true)]}
def Bj(P:abK)(x0:Nat)(x1:String)(x2:Nat)(x3:Nat):Op:=.ins x0 (QX [(.str (S x1) x2),(.str (S x1) (x2+1)),(cut (x2+2)),(.int (x3:Nat) 0),i0,i0,i0,i0,(.ref (x0-2)),(.bool false),(.int 181 0),(.ref (x0-1)),.none,.none,.none,.none,(.int ((x2+3):Nat) 0),(.int (x3:Nat) 0),(cut (x2+4))])
def Bk(P:abK)(x0:Nat)(x1:Nat)(x2:String)(x3:Nat):Op:=.ins x0 {cls:=(.type "frame"),dict:=none,slots:= #[some (.ref (x0-1)),some (.ref 3),some (.ref x1),none,some (.str (S x2) x3),none,some (.ref 0)]}
def g9(P:abK)(x0:String)(x1:Nat)(x2:Nat)(x3:Nat):Op:=.set 3 (nu [(en P (S x0) x1 (.ref x2))] x3)
def bW(P:abK)(x0:Nat):Op:=.ins x0 (jR [])
def Vc(P:abK)(x0:Nat)(x1:String)(x2:Nat):Op:=.ins x0 {cls:=(.type "type"),dict:=none,data:=.cls {name:=(S x1),bases:=[(.ref 47)],mro:=[(.ref x0),(.ref 47),(.type "Exception"),(.type "BaseException"),(.type "object")],ns:=(x0-1),qualname:=(S x1),hasDict:=true,slotNames:=[],subclasses:=[],abstract:=false,collection:=none,hasDel:=false},slots:= #[some (.ref (x0-9)),none,some (.str (S x1) x2),some (.str (S x1) (x2+8)),some (.builtin "Exception.__new__"),some (.bool true)]}
def iP(P:abK)(x0:Nat)(x1:Nat):Op:=.set 12 (K5 [(.int (x0:Nat) 0),i0,(.ref x1)])
def sI(P:abK)(x0:Nat)(x1:String)(x2:Nat)(x3:String)(x4:Nat):Op:=.ins x0 (Qx (S x1) (S x1) (top x2) .none (.str (S x3) x4) (.ref (x0-1)))
def iZ(P:abK)(x0:Nat)(x1:String)(x2:String)(x3:Nat)(x4:Nat)(x5:String)(x6:Nat):Op:=.ins x0 (Qx (S x1) (S x2) (Bh x3 x4) .none (.str (S x5) x6) (.ref (x0-1)))
noncomputable def nV(P:abK)(x0:Nat)(x1:Nat):Op:=.ins x0 {cls:=(.type "super"),dict:=none,data:=.fields #[(.ref x1),(.ref x1),(.ref x1)]}
noncomputable def nW(P:abK)(x0:Nat):Op:=.ins x0 {cls:=(.type "builtin_function_or_method"),dict:=none,data:=.fields #[(.builtin "type.__prepare__"),(.type "type")]}
noncomputable def nX(P:abK)(x0:Nat)(x1:Nat):Op:=.ins x0 {cls:=(.type "builtin_function_or_method"),dict:=none,data:=.fields #[(.builtin "object.__init_subclass__"),(.ref x1)]}
def i6(P:abK)(x0:String)(x1:Nat)(x2:Nat):Op:=.set 3 (V6 [(0,(en P (S "__name__") 165 (.str (S x0) x1)))] [] x2)
def Hv(P:abK)(x0:Nat)(x1:Nat)(x2:String)(x3:Nat)(x4:String)(x5:Nat)(x6:Nat)(x7:Nat)(x8:String)(x9:Nat)(Y9:Nat)(x11:Nat):Op:=.ins x0 {cls:=(.type "dict"),dict:=none,data:=.dict #[(en P (S "__module__") x1 (.str (S x2) x3)),(en P (S "__qualname__") (x1+2) (.str (S x4) (x1+1))),(en P (S "__firstlineno__") (x1+4) (.int (x5:Nat) (x1+3))),(en P (S "__init__") x6 (.ref x7)),(en P (S x8) x9 (.ref Y9)),(en P (S "__static_attributes__") x11 (.ref (Y9+1)))] 6}
def uY(P:abK)(x0:Nat)(x1:Nat)(x2:Nat):Op:=.ins x0 {cls:=(.type "getset_descriptor"),dict:=none,data:=.fields #[(.str (S "__weakref__") x1),(.ref x2),(.builtin "ExceptionGroup.__weakref__"),.none]}
def bS(P:abK)(x0:Nat):Op:=.ins x0 (Ms [])
def fD(P:abK)(x0:Nat)(x1:String)(x2:Nat):Op:=.ins x0 (V5 (S x1) (S x1) (top x2))
def xy(P:abK)(x0:Nat)(x1:Nat):Op:=.ins x0 {cls:=(.type "getset_descriptor"),dict:=none,data:=.fields #[(.str (S "__dict__") x1),(.ref (x0-1)),(.builtin "function.__dict__"),(.builtin "function.__dict__#set")]}
def Mu(P:abK)(x0:Nat)(x1:Nat)(x2:String)(x3:Nat)(x4:Nat)(x5:Nat)(x6:Nat)(x7:String)(x8:Nat):Op:=.ins x0 {cls:=(.type "dict"),dict:=none,data:=.dict #[(en P (S "__module__") x1 (.str (S x2) x3)),(en P (S "__firstlineno__") (x1+4) (.int (x4:Nat) (x1+3))),(en P (S "__init__") x5 (.ref x6)),(en P (S x7) x8 (.ref (x0-2))),(en P (S "__static_attributes__") (x5+13) (.ref (x0-1))),(en P (S "__dict__") (x5+15) (.ref (x0+2))),(en P (S "__weakref__") (x5+17) (.ref (x0+3))),(en P (S "__doc__") (x5+18) .none)] 4}
def gC(P:abK)(x0:Nat)(x1:String)(x2:String)(x3:Nat)(x4:Nat):Op:=.ins x0 (V5 (S x1) (S x2) (Bh x3 x4))
def Hw(P:abK)(x0:Nat)(x1:Nat)(x2:String)(x3:Nat):Op:=.ins x0 {cls:=(.type "dict"),dict:=none,data:=.dict #[(en P (S "__module__") x1 (.str (S "ledgerspeak.errors") 194)),(en P (S "__qualname__") (x1+2) (.str (S x2) (x1+1))),(en P (S "__firstlineno__") (x1+4) (.int (x3:Nat) (x1+3))),(en P (S "__static_attributes__") (x1+5) (.ref (x0+5)))] 4}
def Hx(P:abK)(x0:Nat)(x1:Nat)(x2:Nat):Op:=.ins x0 {cls:=(.type "dict"),dict:=none,data:=.dict #[(en P (S "__module__") x1 (.str (S "ledgerspeak.errors") 194)),(en P (S "__firstlineno__") (x1+4) (.int (x2:Nat) (x1+3))),(en P (S "__static_attributes__") (x1+5) (.ref (x0-1))),(en P (S "__doc__") (x1+6) .none)] 2}
def mL(P:abK)(x0:String)(x1:Nat)(x2:Nat)(x3:Nat):Op:=.set 3 (nu [(en P (S x0) x1 (.int (x2:Nat) (x1-1)))] x3)
def uZ(P:abK)(x0:Nat)(x1:String)(x2:Nat)(x3:String)(x4:String):Op:=.ins x0 (jR [(.str (S x1) x2),(.str (S x3) (x2+1)),(.str (S x4) (x2+2))])
def Hz(P:abK)(x0:Nat)(x1:String)(x2:Nat)(x3:String)(x4:String)(x5:String)(x6:String)(x7:String):Op:=.ins x0 (jR [(.str (S x1) x2),(.str (S x3) (x2+1)),(.str (S x4) (x2+2)),(.str (S x5) (x2+3)),(.str (S x6) (x2+4)),(.str (S x7) (x2+5))])
def Bl(P:abK)(x0:Nat)(x1:String)(x2:Nat)(x3:Nat)(x4:String)(x5:Nat):Op:=.ins x0 (Qx (S x1) (S x1) (top x2) (.ref x3) (.str (S x4) x5) (.ref (x0-1)))
def HA(P:abK)(x0:Nat)(x1:String)(x2:Nat)(x3:String)(x4:String)(x5:String)(x6:String):Op:=.ins x0 (jR [(.str (S x1) x2),(.str (S x3) (x2+1)),(.str (S x4) (x2+2)),(.str (S x5) (x2+3)),(.str (S x6) (x2+4))])
def HB(P:abK)(x0:Nat)(x1:Nat)(x2:Nat)(x3:Nat)(x4:Nat):Op:=.ins x0 (Ms [(.int (x1:Nat) 0),(.int 4 0),(.ref x2),(.int (x3:Nat) 0),(.int 4 0),(.ref x4)])
def Bm(P:abK)(x0:String)(x1:Nat)(x2:String)(x3:Nat):Op:=.set 3 (nu [(en P (S x0) x1 (.str (S x2) (x1-1)))] x3)
def Bo(P:abK)(x0:Nat)(x1:String)(x2:Nat)(x3:String):Op:=.ins x0 (jR [(.str (S x1) x2),(.str (S x3) (x2+1))])
def sJ(P:abK)(x0:Nat)(x1:String)(x2:Nat):Op:=.ins x0 (jR [(.str (S x1) x2)])
def HC(P:abK)(x0:Nat)(x1:String)(x2:Nat)(x3:String)(x4:Nat):Op:=.ins x0 (Qx (S "__init__") (S x1) (Bh x2 0) (.ref (x0-7)) (.str (S x3) x4) (.ref (x0-1)))
def T0(P:abK):BT:=mK (Tb P) [[bW P 11,
 (bS P 12),
 (Bj P 13 "<module>" 182 1),
 (Bk P 14 3 "__main__" 164)]]
def T1(P:abK):BT:=mK (T0 P) [dR P (.str (S "__main__") 164) 1 10 0 15 187,
 [i6 P "ledgerspeak.errors" 194 10,
 (.set 2 (nu [en P (S "type.__subclasses__.Exception.0") 232 (.int 47 0),en P (S "type.__subclasses__.Exception.n") 233 (.int 1 0)] 2)),
 (g9 P "LedgerError" 235 47 11),
 (iP P 5 27),
 (.ins 22 (jR [.type "Exception"])),
 (nW P 23),
 (Hv P 24 203 "ledgerspeak.errors" 194 "LedgerError" 5 218 37 "told" 225 44 228),
 (bW P 25),
 (HB P 26 7 36 12 43),
 (Bj P 27 "LedgerError" 198 5),
 (Bk P 28 24 "ledgerspeak.errors" 194),
 (.ins 29 (jR [.int 0 208,.int 0 209])),
 (.ins 30 (jR [.ref 29])),
 (bW P 31),
 (bS P 32),
 (uZ P 33 "self" 213 "what" "at"),
 (bW P 34),
 (gC P 35 "__init__" "LedgerError.__init__" 2 0),
 (nv P 36 "__init__" 210 "LedgerError.__init__" 7 3 216),
 (HC P 37 "LedgerError.__init__" 2 "ledgerspeak.errors" 194),
 (bW P 38),
 (bS P 39),
 (sJ P 40 "self" 222),
 (bW P 41),
 (gC P 42 "told" "LedgerError.told" 2 1),
 (nv P 43 "told" 219 "LedgerError.told" 12 1 223),
 (iZ P 44 "told" "LedgerError.told" 2 1 "ledgerspeak.errors" 194),
 (Bo P 45 "at" 226 "what"),
 (.ins 46 {cls:=(.type "dict"),dict:=none,data:=.dict #[en P (S "__module__") 203 (.str (S "ledgerspeak.errors") 194),en P (S "__firstlineno__") 207 (.int 5 206),en P (S "__init__") 218 (.ref 37),en P (S "told") 225 (.ref 44),en P (S "__static_attributes__") 228 (.ref 45),en P (S "__weakref__") 230 (.ref 48),en P (S "__doc__") 231 .none] 3}),
 (.ins 47 {cls:=(.type "type"),dict:=none,data:=.cls {name:=(S "LedgerError"),bases:=[.type "Exception"],mro:=[.ref 47,.type "Exception",.type "BaseException",.type "object"],ns:=46,qualname:=(S "LedgerError"),hasDict:=true,slotNames:=[],subclasses:=[],abstract:=false,collection:=none,hasDel:=false},slots:= #[some (.ref 22),none,some (.str (S "LedgerError") 196),some (.str (S "LedgerError") 204),some (.builtin "Exception.__new__"),some (.bool true)]}),
 (uY P 48 229 47),
 (nV P 49 47),
 (nX P 50 47)]]
def T2(P:abK):BT:=mK (T1 P) [[g9 P "DataFault" 251 60 12,
 (iP P 14 56),
 (.set 47 (λU=>{cls:=(.type "type"),dict:=none,data:=.cls {name:=(S "LedgerError"),bases:=[.type "Exception"],mro:=[.ref 47,.type "Exception",.type "BaseException",.type "object"],ns:=46,qualname:=(S "LedgerError"),hasDict:=true,slotNames:=[],subclasses:=[.ref 60],abstract:=false,collection:=none,hasDel:=false},slots:= #[some (.ref 22),none,some (.str (S "LedgerError") 196),some (.str (S "LedgerError") 204),some (.builtin "Exception.__new__"),some (.bool true)]})),
 (.ins 51 (jR [.ref 47])),
 (nW P 52),
 (Hw P 53 243 "DataFault" 14),
 (bW P 54),
 (bS P 55),
 (Bj P 56 "DataFault" 238 14),
 (Bk P 57 53 "ledgerspeak.errors" 194),
 (bW P 58),
 (Hx P 59 243 14),
 (Vc P 60 "DataFault" 236),
 (nV P 61 60),
 (nX P 62 60)]]
def T3(P:abK):BT:=mK (T2 P) [[g9 P "CheckFault" 267 72 13,
 (iP P 16 68),
 (.set 47 (λU=>{cls:=(.type "type"),dict:=none,data:=.cls {name:=(S "LedgerError"),bases:=[.type "Exception"],mro:=[.ref 47,.type "Exception",.type "BaseException",.type "object"],ns:=46,qualname:=(S "LedgerError"),hasDict:=true,slotNames:=[],subclasses:=[.ref 60,.ref 72],abstract:=false,collection:=none,hasDel:=false},slots:= #[some (.ref 22),none,some (.str (S "LedgerError") 196),some (.str (S "LedgerError") 204),some (.builtin "Exception.__new__"),some (.bool true)]})),
 (.ins 63 (jR [.ref 47])),
 (nW P 64),
 (Hw P 65 259 "CheckFault" 16),
 (bW P 66),
 (bS P 67),
 (Bj P 68 "CheckFault" 254 16),
 (Bk P 69 65 "ledgerspeak.errors" 194),
 (bW P 70),
 (Hx P 71 259 16),
 (Vc P 72 "CheckFault" 252),
 (nV P 73 72),
 (nX P 74 72)]]
def T4(P:abK):BT:=mK (T3 P) [[g9 P "RunFault" 283 84 14,
 (iP P 18 80),
 (.set 47 (λU=>{cls:=(.type "type"),dict:=none,data:=.cls {name:=(S "LedgerError"),bases:=[.type "Exception"],mro:=[.ref 47,.type "Exception",.type "BaseException",.type "object"],ns:=46,qualname:=(S "LedgerError"),hasDict:=true,slotNames:=[],subclasses:=[.ref 60,.ref 72,.ref 84],abstract:=false,collection:=none,hasDel:=false},slots:= #[some (.ref 22),none,some (.str (S "LedgerError") 196),some (.str (S "LedgerError") 204),some (.builtin "Exception.__new__"),some (.bool true)]})),
 (.ins 75 (jR [.ref 47])),
 (nW P 76),
 (Hw P 77 275 "RunFault" 18),
 (bW P 78),
 (bS P 79),
 (Bj P 80 "RunFault" 270 18),
 (Bk P 81 77 "ledgerspeak.errors" 194),
 (bW P 82),
 (Hx P 83 275 18),
 (Vc P 84 "RunFault" 268),
 (nV P 85 84),
 (nX P 86 84)]]
def T5(P:abK):BT:=mK (T4 P) [[g9 P "SizeFault" 299 96 15,
 (iP P 20 92),
 (.set 47 (λU=>{cls:=(.type "type"),dict:=none,data:=.cls {name:=(S "LedgerError"),bases:=[.type "Exception"],mro:=[.ref 47,.type "Exception",.type "BaseException",.type "object"],ns:=46,qualname:=(S "LedgerError"),hasDict:=true,slotNames:=[],subclasses:=[.ref 60,.ref 72,.ref 84,.ref 96],abstract:=false,collection:=none,hasDel:=false},slots:= #[some (.ref 22),none,some (.str (S "LedgerError") 196),some (.str (S "LedgerError") 204),some (.builtin "Exception.__new__"),some (.bool true)]})),
 (.ins 87 (jR [.ref 47])),
 (nW P 88),
 (Hw P 89 291 "SizeFault" 20),
 (bW P 90),
 (bS P 91),
 (Bj P 92 "SizeFault" 286 20),
 (Bk P 93 89 "ledgerspeak.errors" 194),
 (bW P 94),
 (Hx P 95 291 20),
 (Vc P 96 "SizeFault" 284),
 (nV P 97 96),
 (nX P 98 96),
 (i6 P "ledgerspeak.items" 300 15),
 (Bm P "FILLER" 303 "FILLER" 16),
 (mL P "RENAMING" 305 66 17)]]
def T6(P:abK):BT:=mK (T5 P) [[g9 P "Occurs" 349 125 18,
 (iP P 25 104),
 (bW P 99),
 (nW P 100),
 (Hv P 101 313 "ledgerspeak.items" 300 "Occurs" 25 329 115 "told" 336 122 342),
 (bW P 102),
 (HB P 103 27 114 34 121),
 (Bj P 104 "Occurs" 308 25),
 (Bk P 105 101 "ledgerspeak.items" 300),
 (bW P 106),
 (bW P 107),
 (.ins 108 (jR [.none,.ref 106,.ref 107])),
 (bW P 109),
 (bS P 110),
 (Hz P 111 "self" 321 "low" "high" "depending" "keys" "indexes"),
 (bW P 112),
 (gC P 113 "__init__" "Occurs.__init__" 10 0),
 (nv P 114 "__init__" 318 "Occurs.__init__" 27 6 327),
 (HC P 115 "Occurs.__init__" 10 "ledgerspeak.items" 300),
 (bW P 116),
 (bS P 117),
 (sJ P 118 "self" 333),
 (bW P 119),
 (gC P 120 "told" "Occurs.told" 10 1),
 (nv P 121 "told" 330 "Occurs.told" 34 1 334),
 (iZ P 122 "told" "Occurs.told" 10 1 "ledgerspeak.items" 300),
 (HA P 123 "depending" 337 "high" "indexes" "keys" "low"),
 (Mu P 124 313 "ledgerspeak.items" 300 25 329 115 "told" 336),
 (Mt P 125 "Occurs" 306),
 (xy P 126 343),
 (uY P 127 345 125),
 (nV P 128 125),
 (nX P 129 125)]]
def T7(P:abK):BT:=mK (T6 P) [[g9 P "Item" 427 172 19,
 (iP P 36 135),
 (bW P 130),
 (nW P 131),
 (.ins 132 {cls:=(.type "dict"),dict:=none,data:=.dict #[en P (S "__module__") 357 (.str (S "ledgerspeak.items") 300),en P (S "__qualname__") 359 (.str (S "Item") 358),en P (S "__firstlineno__") 361 (.int 36 360),en P (S "__init__") 370 (.ref 143),en P (S "add") 378 (.ref 150),en P (S "count") 385 (.ref 157),en P (S "clauses") 394 (.ref 164),en P (S "told") 400 (.ref 169),en P (S "__static_attributes__") 420 (.ref 170)] 9}),
 (bW P 133),
 (.ins 134 (Ms [.int 38 0,.int 4 0,.ref 142,.int 59 0,.int 4 0,.ref 149,.int 63 0,.int 4 0,.ref 156,.int 66 0,.int 4 0,.ref 163,.int 71 0,.int 4 0,.ref 168])),
 (Bj P 135 "Item" 352 36),
 (Bk P 136 132 "ledgerspeak.items" 300),
 (bW P 137),
 (bS P 138),
 (uZ P 139 "self" 365 "level" "name"),
 (bW P 140),
 (gC P 141 "__init__" "Item.__init__" 11 0),
 (nv P 142 "__init__" 362 "Item.__init__" 38 3 368),
 (iZ P 143 "__init__" "Item.__init__" 11 0 "ledgerspeak.items" 300),
 (bW P 144),
 (bS P 145),
 (Bo P 146 "self" 374 "kid"),
 (bW P 147),
 (gC P 148 "add" "Item.add" 11 1),
 (nv P 149 "add" 371 "Item.add" 59 2 376),
 (iZ P 150 "add" "Item.add" 11 1 "ledgerspeak.items" 300),
 (bW P 151),
 (bS P 152),
 (sJ P 153 "self" 382),
 (bW P 154),
 (gC P 155 "count" "Item.count" 11 2),
 (nv P 156 "count" 379 "Item.count" 63 1 383),
 (iZ P 157 "count" "Item.count" 11 2 "ledgerspeak.items" 300),
 (bW P 158),
 (bS P 159),
 (uZ P 160 "self" 389 "often" "first"),
 (bW P 161),
 (gC P 162 "clauses" "Item.clauses" 11 3),
 (nv P 163 "clauses" 386 "Item.clauses" 66 1 392),
 (iZ P 164 "clauses" "Item.clauses" 11 3 "ledgerspeak.items" 300),
 (bW P 165),
 (bS P 166),
 (gC P 167 "told" "Item.told" 11 4),
 (sH P 168 "told" 395 "Item.told" 71 1),
 (iZ P 169 "told" "Item.told" 11 4 "ledgerspeak.items" 300),
 (.ins 170 (jR [.str (S "base") 401,.str (S "conditions") 402,.str (S "is_blank_zero") 403,.str (S "is_justified") 404,.str (S "is_separate") 405,.str (S "kids") 406,.str (S "level") 407,.str (S "name") 408,.str (S "occurs") 409,.str (S "offset") 410,.str (S "parent") 411,.str (S "picture_text") 412,.str (S "redefines") 413,.str (S "renames") 414,.str (S "shape") 415,.str (S "sign") 416,.str (S "size") 417,.str (S "usage") 418,.str (S "value") 419])),
 (.ins 171 {cls:=(.type "dict"),dict:=none,data:=.dict #[en P (S "__module__") 357 (.str (S "ledgerspeak.items") 300),en P (S "__firstlineno__") 361 (.int 36 360),en P (S "__init__") 370 (.ref 143),en P (S "add") 378 (.ref 150),en P (S "count") 385 (.ref 157),en P (S "clauses") 394 (.ref 164),en P (S "told") 400 (.ref 169),en P (S "__static_attributes__") 420 (.ref 170),en P (S "__dict__") 422 (.ref 173),en P (S "__weakref__") 424 (.ref 174),en P (S "__doc__") 425 .none] 4}),
 (Mt P 172 "Item" 350),
 (xy P 173 421),
 (uY P 174 423 172),
 (nV P 175 172),
 (nX P 176 172)]]
def T8(P:abK):BT:=mK (T7 P) [[g9 P "Data" 466 198 20,
 (iP P 74 182),
 (bW P 177),
 (nW P 178),
 (Hv P 179 435 "ledgerspeak.items" 300 "Data" 74 446 190 "told" 452 195 459),
 (bW P 180),
 (HB P 181 76 189 84 194),
 (Bj P 182 "Data" 430 74),
 (Bk P 183 179 "ledgerspeak.items" 300),
 (bW P 184),
 (bS P 185),
 (sJ P 186 "self" 443),
 (bW P 187),
 (gC P 188 "__init__" "Data.__init__" 12 0),
 (nv P 189 "__init__" 440 "Data.__init__" 76 1 444),
 (iZ P 190 "__init__" "Data.__init__" 12 0 "ledgerspeak.items" 300),
 (bW P 191),
 (bS P 192),
 (gC P 193 "told" "Data.told" 12 1),
 (sH P 194 "told" 447 "Data.told" 84 1),
 (iZ P 195 "told" "Data.told" 12 1 "ledgerspeak.items" 300),
 (Hz P 196 "files" 453 "indexes" "linkage" "size" "sorts" "working"),
 (Mu P 197 435 "ledgerspeak.items" 300 74 446 190 "told" 452),
 (Mt P 198 "Data" 428),
 (xy P 199 460),
 (uY P 200 462 198),
 (nV P 201 198),
 (nX P 202 198)],
 dR P (.str (S "ledgerspeak.items") 300) 3 21 13 203 467]
def T9(P:abK):BT:=mK (T8 P) [dR P (.str (S "ledgerspeak.items") 300) 2 24 16 224 495,
 [g9 P "names_around" 517 242 26,
 (iP P 115 241),
 (bW P 238),
 (bS P 239),
 (fD P 240 "names_around" 18),
 (sH P 241 "names_around" 512 "names_around" 115 1),
 (sI P 242 "names_around" 18 "ledgerspeak.items" 300),
 (g9 P "tables_around" 523 247 27),
 (iP P 117 246),
 (bW P 243),
 (bS P 244),
 (fD P 245 "tables_around" 19),
 (sH P 246 "tables_around" 518 "tables_around" 117 1),
 (sI P 247 "tables_around" 19 "ledgerspeak.items" 300),
 (g9 P "is_group" 529 252 28),
 (iP P 120 251),
 (bW P 248),
 (bS P 249),
 (fD P 250 "is_group" 20),
 (sH P 251 "is_group" 524 "is_group" 120 1),
 (sI P 252 "is_group" 20 "ledgerspeak.items" 300),
 (g9 P "plain_kids" 535 257 29),
 (iP P 122 256),
 (bW P 253),
 (bS P 254),
 (fD P 255 "plain_kids" 21),
 (sH P 256 "plain_kids" 530 "plain_kids" 122 1),
 (sI P 257 "plain_kids" 21 "ledgerspeak.items" 300),
 (i6 P "ledgerspeak.references" 536 29),
 (g9 P "file_of" 543 262 30),
 (iP P 125 261),
 (bW P 258),
 (bS P 259),
 (fD P 260 "file_of" 23),
 (sH P 261 "file_of" 538 "file_of" 125 2),
 (sI P 262 "file_of" 23 "ledgerspeak.references" 536)],
 dR P (.str (S "ledgerspeak.references") 536) 2 31 24 263 544,
 [g9 P "find_item" 567 281 33,
 (iP P 143 280),
 (bW P 277),
 (bS P 278),
 (fD P 279 "find_item" 26),
 (sH P 280 "find_item" 562 "find_item" 143 3),
 (sI P 281 "find_item" 26 "ledgerspeak.references" 536)],
 dR P (.str (S "ledgerspeak.references") 536) 1 34 27 282 568,
 [i6 P "ledgerspeak.shapes" 583 34,
 (mL P "INDEX_SIZE" 586 4 35)]]
def V7(P:abK):BT:=mK (T9 P) [[mL P "INDEX_DIGITS" 588 9 36,
 (g9 P "Shape" 653 320 37),
 (iP P 166 294),
 (bW P 289),
 (nW P 290),
 (.ins 291 {cls:=(.type "dict"),dict:=none,data:=.dict #[en P (S "__module__") 596 (.str (S "ledgerspeak.shapes") 583),en P (S "__qualname__") 598 (.str (S "Shape") 597),en P (S "__firstlineno__") 600 (.int 166 599),en P (S "__init__") 617 (.ref 303),en P (S "told") 627 (.ref 310),en P (S "sign_place") 634 (.ref 317),en P (S "__static_attributes__") 646 (.ref 318)] 7}),
 (bW P 292),
 (.ins 293 (Ms [.int 168 0,.int 4 0,.ref 302,.int 185 0,.int 4 0,.ref 309,.int 191 0,.int 4 0,.ref 316])),
 (Bj P 294 "Shape" 591 166),
 (Bk P 295 291 "ledgerspeak.shapes" 583),
 (.ins 296 (jR [.none,.str (S "display") 601,.str (S "trailing") 602,.bool false,.bool false,.bool false])),
 (bW P 297),
 (bS P 298),
 (.ins 299 (jR [.str (S "self") 606,.str (S "category") 607,.str (S "size") 608,.str (S "picture") 609,.str (S "usage") 610,.str (S "sign") 611,.str (S "is_separate") 612,.str (S "is_justified") 613,.str (S "is_blank_zero") 614])),
 (bW P 300),
 (gC P 301 "__init__" "Shape.__init__" 31 0),
 (nv P 302 "__init__" 603 "Shape.__init__" 168 9 615),
 (HC P 303 "Shape.__init__" 31 "ledgerspeak.shapes" 583),
 (bW P 304),
 (bS P 305),
 (.ins 306 (jR [.str (S "self") 621,.str (S "clauses") 622,.str (S "number") 623,.str (S "picture") 624])),
 (bW P 307),
 (gC P 308 "told" "Shape.told" 31 1),
 (nv P 309 "told" 618 "Shape.told" 185 1 625),
 (iZ P 310 "told" "Shape.told" 31 1 "ledgerspeak.shapes" 583),
 (bW P 311),
 (bS P 312),
 (sJ P 313 "self" 631),
 (bW P 314),
 (gC P 315 "sign_place" "Shape.sign_place" 31 2),
 (nv P 316 "sign_place" 628 "Shape.sign_place" 191 1 632),
 (iZ P 317 "sign_place" "Shape.sign_place" 31 2 "ledgerspeak.shapes" 583),
 (.ins 318 (jR [.str (S "category") 635,.str (S "digits") 636,.str (S "is_blank_zero") 637,.str (S "is_justified") 638,.str (S "is_separate") 639,.str (S "is_signed") 640,.str (S "picture") 641,.str (S "scale") 642,.str (S "sign") 643,.str (S "size") 644,.str (S "usage") 645])),
 (.ins 319 {cls:=(.type "dict"),dict:=none,data:=.dict #[en P (S "__module__") 596 (.str (S "ledgerspeak.shapes") 583),en P (S "__firstlineno__") 600 (.int 166 599),en P (S "__init__") 617 (.ref 303),en P (S "told") 627 (.ref 310),en P (S "sign_place") 634 (.ref 317),en P (S "__static_attributes__") 646 (.ref 318),en P (S "__dict__") 648 (.ref 321),en P (S "__weakref__") 650 (.ref 322),en P (S "__doc__") 651 .none] 4}),
 (Mt P 320 "Shape" 589),
 (xy P 321 647),
 (uY P 322 649 320),
 (nV P 323 320),
 (nX P 324 320)],
 dR P (.str (S "ledgerspeak.shapes") 583) 1 38 32 325 654]
def V8(P:abK):BT:=mK (V7 P) [dR P (.str (S "ledgerspeak.shapes") 583) 7 39 33 332 661,
 [g9 P "index_shape" 726 387 46,
 (iP P 221 386),
 (bW P 381),
 (bS P 382),
 (bW P 383),
 (bW P 384),
 (fD P 385 "index_shape" 40),
 (.ins 386 (QX [.str (S "index_shape") 721,.str (S "index_shape") 722,cut 723,.int 221 0,i0,i0,i0,.int 3 0,.ref 381,.bool true,.int 181 0,.ref 382,.none,.ref 383,.ref 384,.ref 385,.int 724 0,.int 221 0,cut 725])),
 (sI P 387 "index_shape" 40 "ledgerspeak.shapes" 583),
 (i6 P "ledgerspeak.needs" 727 46),
 (Bm P "ARITHMETIC" 730 "+ - * / **" 47),
 (Bm P "INDEX_NAME" 732 "index-name" 48)],
 dR P (.str (S "ledgerspeak.needs") 727) 2 49 44 388 733]
def V9(P:abK):BT:=mK (V8 P) [dR P (.str (S "ledgerspeak.needs") 727) 10 51 46 402 749,
 [i6 P "ledgerspeak.checker" 842 60,
 (g9 P "NUMBER_PLACES" 846 472 61),
 (Bo P 472 "numeric" 844 "edited")]]
def Wa(P:abK):BT:=mK (V9 P) [dR P (.str (S "ledgerspeak.checker") 842) 1 62 58 473 847,
 [i6 P "ledgerspeak.decimals" 860 62,
 (mL P "MOST_PLACES" 863 30 63),
 (mL P "MOST_POWER" 865 99 64),
 (mL P "MOST_FIGURES" 867 120 65)],
 dR P (.str (S "ledgerspeak.decimals") 860) 1 66 63 480 868,
 [g9 P "decimal" 884 494 67,
 (iP P 313 493),
 (.ins 487 (jR [.int 0 876])),
 (bW P 488),
 (bS P 489),
 (Bo P 490 "units" 880 "scale"),
 (bW P 491),
 (fD P 492 "decimal" 64),
 (nv P 493 "decimal" 877 "decimal" 313 2 882),
 (Bl P 494 "decimal" 64 487 "ledgerspeak.decimals" 860)],
 dR P (.str (S "ledgerspeak.decimals") 860) 6 68 65 495 885]
def Wb(P:abK):BT:=mK (Wa P) [[g9 P "quotient" 947 544 74,
 (iP P 340 543),
 (.ins 537 (jR [.int 30 862])),
 (bW P 538),
 (bS P 539),
 (uZ P 540 "a" 942 "b" "many"),
 (bW P 541),
 (fD P 542 "quotient" 71),
 (nv P 543 "quotient" 939 "quotient" 340 3 945),
 (Bl P 544 "quotient" 71 537 "ledgerspeak.decimals" 860)],
 dR P (.str (S "ledgerspeak.decimals") 860) 5 75 72 545 948,
 [i6 P "ledgerspeak.pictures" 991 79],
 dR P (.str (S "ledgerspeak.pictures") 991) 1 80 78 580 993,
 [i6 P "ledgerspeak.editing" 1003 80,
 (Bm P "FIXED" 1006 "$+-" 81),
 (Bm P "INSERTED" 1008 "B0/," 82),
 (Bm P "BLANK_editing" 1010 " " 83)],
 dR P (.str (S "ledgerspeak.editing") 1003) 2 84 83 587 1011]
def Wc(P:abK):BT:=mK (Wb P) [dR P (.str (S "ledgerspeak.editing") 1003) 4 86 85 601 1030]
def We(P:abK):BT:=mK (Wc P) [[g9 P "Layer" 1124 666 90,
 (iP P 409 634),
 (bW P 629),
 (nW P 630),
 (.ins 631 {cls:=(.type "dict"),dict:=none,data:=.dict #[en P (S "__module__") 1069 (.str (S "ledgerspeak.editing") 1003),en P (S "__qualname__") 1071 (.str (S "Layer") 1070),en P (S "__firstlineno__") 1073 (.int 409 1072),en P (S "__init__") 1083 (.ref 642),en P (S "suppress") 1090 (.ref 649),en P (S "figure") 1099 (.ref 656),en P (S "place") 1108 (.ref 663),en P (S "__static_attributes__") 1117 (.ref 664)] 8}),
 (bW P 632),
 (.ins 633 (Ms [.int 411 0,.int 4 0,.ref 641,.int 421 0,.int 4 0,.ref 648,.int 425 0,.int 4 0,.ref 655,.int 435 0,.int 4 0,.ref 662])),
 (Bj P 634 "Layer" 1064 409),
 (Bk P 635 631 "ledgerspeak.editing" 1003),
 (bW P 636),
 (bS P 637),
 (.ins 638 (jR [.str (S "self") 1077,.str (S "figures") 1078,.str (S "is_negative") 1079,.str (S "fill") 1080])),
 (bW P 639),
 (gC P 640 "__init__" "Layer.__init__" 89 0),
 (nv P 641 "__init__" 1074 "Layer.__init__" 411 4 1081),
 (iZ P 642 "__init__" "Layer.__init__" 89 0 "ledgerspeak.editing" 1003),
 (bW P 643),
 (bS P 644),
 (sJ P 645 "self" 1087),
 (bW P 646),
 (gC P 647 "suppress" "Layer.suppress" 89 1),
 (nv P 648 "suppress" 1084 "Layer.suppress" 421 1 1088),
 (iZ P 649 "suppress" "Layer.suppress" 89 1 "ledgerspeak.editing" 1003),
 (bW P 650),
 (bS P 651),
 (uZ P 652 "self" 1094 "role" "figure"),
 (bW P 653),
 (gC P 654 "figure" "Layer.figure" 89 2),
 (nv P 655 "figure" 1091 "Layer.figure" 425 2 1097),
 (iZ P 656 "figure" "Layer.figure" 89 2 "ledgerspeak.editing" 1003),
 (bW P 657),
 (bS P 658),
 (uZ P 659 "self" 1103 "role" "sign"),
 (bW P 660),
 (gC P 661 "place" "Layer.place" 89 3),
 (nv P 662 "place" 1100 "Layer.place" 435 3 1106),
 (iZ P 663 "place" "Layer.place" 89 3 "ledgerspeak.editing" 1003),
 (.ins 664 (jR [.str (S "figures") 1109,.str (S "fill") 1110,.str (S "found") 1111,.str (S "is_begun") 1112,.str (S "is_counting") 1113,.str (S "is_negative") 1114,.str (S "next") 1115,.str (S "spot") 1116])),
 (.ins 665 {cls:=(.type "dict"),dict:=none,data:=.dict #[en P (S "__module__") 1069 (.str (S "ledgerspeak.editing") 1003),en P (S "__firstlineno__") 1073 (.int 409 1072),en P (S "__init__") 1083 (.ref 642),en P (S "suppress") 1090 (.ref 649),en P (S "figure") 1099 (.ref 656),en P (S "place") 1108 (.ref 663),en P (S "__static_attributes__") 1117 (.ref 664),en P (S "__dict__") 1119 (.ref 667),en P (S "__weakref__") 1121 (.ref 668),en P (S "__doc__") 1122 .none] 4}),
 (Mt P 666 "Layer" 1062),
 (xy P 667 1118),
 (uY P 668 1120 666),
 (nV P 669 666),
 (nX P 670 666)]]
def Wf(P:abK):BT:=mK (We P) [[g9 P "vanished" 1130 675 91,
 (iP P 450 674),
 (bW P 671),
 (bS P 672),
 (fD P 673 "vanished" 90),
 (sH P 674 "vanished" 1125 "vanished" 450 3),
 (sI P 675 "vanished" 90 "ledgerspeak.editing" 1003)],
 dR P (.str (S "ledgerspeak.editing") 1003) 1 92 91 676 1131,
 [g9 P "edited" 1152 688 93,
 (iP P 469 687),
 (.ins 683 (jR [.bool false])),
 (bW P 684),
 (bS P 685),
 (fD P 686 "edited" 92),
 (sH P 687 "edited" 1147 "edited" 469 3),
 (Bl P 688 "edited" 92 683 "ledgerspeak.editing" 1003),
 (g9 P "data_places" 1158 693 94),
 (iP P 471 692),
 (bW P 689),
 (bS P 690),
 (fD P 691 "data_places" 93),
 (sH P 692 "data_places" 1153 "data_places" 471 1),
 (sI P 693 "data_places" 93 "ledgerspeak.editing" 1003)],
 dR P (.str (S "ledgerspeak.editing") 1003) 1 95 94 694 1159,
 [i6 P "ledgerspeak.usages" 1173 95,
 (mL P "NOUGHT" 1176 48 96),
 (mL P "PLUS" 1178 43 97),
 (mL P "MINUS" 1180 45 98),
 (.set 3 (nu [en P (S "PLUS_FIGURES") 1182 (.bytes (bA [123,65,66,67,68,69,70,71,72,73]) 1181)] 99)),
 (.set 3 (nu [en P (S "MINUS_FIGURES") 1184 (.bytes (bA [125,74,75,76,77,78,79,80,81,82]) 1183)] 100)),
 (mL P "PACKED_PLUS" 1186 12 101),
 (mL P "PACKED_MINUS" 1188 13 102),
 (mL P "PACKED_PLAIN" 1190 15 103)],
 dR P (.str (S "ledgerspeak.usages") 1173) 2 104 104 701 1191,
 [g9 P "display_octets" 1216 719 106,
 (iP P 503 718),
 (bW P 715),
 (bS P 716),
 (fD P 717 "display_octets" 106),
 (sH P 718 "display_octets" 1211 "display_octets" 503 2),
 (sI P 719 "display_octets" 106 "ledgerspeak.usages" 1173),
 (g9 P "packed_octets" 1222 724 107),
 (iP P 514 723),
 (bW P 720),
 (bS P 721),
 (fD P 722 "packed_octets" 107),
 (sH P 723 "packed_octets" 1217 "packed_octets" 514 2),
 (sI P 724 "packed_octets" 107 "ledgerspeak.usages" 1173)]]
def Wg(P:abK):BT:=mK (Wf P) [dR P (.str (S "ledgerspeak.usages") 1173) 4 108 108 725 1223,
 [g9 P "display_units" 1265 757 112,
 (iP P 544 756),
 (bW P 753),
 (bS P 754),
 (fD P 755 "display_units" 112),
 (sH P 756 "display_units" 1260 "display_units" 544 2),
 (sI P 757 "display_units" 112 "ledgerspeak.usages" 1173)],
 dR P (.str (S "ledgerspeak.usages") 1173) 5 113 113 758 1266,
 [i6 P "ledgerspeak.moving" 1313 117,
 (.set 3 (nu [en P (S "BLANK_moving") 1316 (.bytes (bA [32]) 1315)] 118)),
 (mL P "NOUGHT_CODE" 1318 48 119),
 (g9 P "NUMBERS" 1321 793 120),
 (Bo P 793 "numeric" 1319 "edited")]]
def Wh(P:abK):BT:=mK (Wg P) [[g9 P "aligned" 1330 801 121,
 (iP P 589 800),
 (.ins 794 (jR [.bool false])),
 (bW P 795),
 (bS P 796),
 (uZ P 797 "octets" 1325 "size" "is_justified"),
 (bW P 798),
 (fD P 799 "aligned" 122),
 (nv P 800 "aligned" 1322 "aligned" 589 3 1328),
 (Bl P 801 "aligned" 122 794 "ledgerspeak.moving" 1313)],
 dR P (.str (S "ledgerspeak.moving") 1313) 6 122 123 802 1331,
 [i6 P "ledgerspeak.layout" 1381 127],
 dR P (.str (S "ledgerspeak.layout") 1381) 3 128 130 844 1383,
 [g9 P "first_octets" 1412 869 131,
 (iP P 646 868),
 (bW P 865),
 (bS P 866),
 (fD P 867 "first_octets" 133),
 (sH P 868 "first_octets" 1407 "first_octets" 646 1),
 (sI P 869 "first_octets" 133 "ledgerspeak.layout" 1381)]]
def Wi(P:abK):BT:=mK (Wh P) [dR P (.str (S "ledgerspeak.layout") 1381) 1 132 134 870 1413,
 [i6 P "ledgerspeak.reckoning" 1423 132,
 (g9 P "TWO_SIDED" 1430 877 133),
 (HA P 877 "+" 1425 "-" "*" "/" "**")],
 dR P (.str (S "ledgerspeak.reckoning") 1423) 3 134 137 878 1431,
 [i6 P "ledgerspeak.world" 1463 136]]
def Wj(P:abK):BT:=mK (Wi P) [[g9 P "World" 1506 915 137,
 (iP P 698 904),
 (bW P 899),
 (nW P 900),
 (.ins 901 {cls:=(.type "dict"),dict:=none,data:=.dict #[en P (S "__module__") 1472 (.str (S "ledgerspeak.world") 1463),en P (S "__qualname__") 1474 (.str (S "World") 1473),en P (S "__firstlineno__") 1476 (.int 698 1475),en P (S "__init__") 1487 (.ref 912),en P (S "__static_attributes__") 1499 (.ref 913)] 5}),
 (bW P 902),
 (.ins 903 (Ms [.int 700 0,.int 4 0,.ref 911])),
 (Bj P 904 "World" 1467 698),
 (Bk P 905 901 "ledgerspeak.world" 1463),
 (bW P 906),
 (bS P 907),
 (HA P 908 "self" 1480 "program" "shelf" "rows" "name"),
 (bW P 909),
 (gC P 910 "__init__" "World.__init__" 141 0),
 (nv P 911 "__init__" 1477 "World.__init__" 700 4 1485),
 (iZ P 912 "__init__" "World.__init__" 141 0 "ledgerspeak.world" 1463),
 (.ins 913 (jR [.str (S "handles") 1488,.str (S "indexes") 1489,.str (S "links") 1490,.str (S "memory") 1491,.str (S "open_paths") 1492,.str (S "open_row") 1493,.str (S "program") 1494,.str (S "rows") 1495,.str (S "shelf") 1496,.str (S "sorts") 1497,.str (S "told_rows") 1498])),
 (.ins 914 {cls:=(.type "dict"),dict:=none,data:=.dict #[en P (S "__module__") 1472 (.str (S "ledgerspeak.world") 1463),en P (S "__firstlineno__") 1476 (.int 698 1475),en P (S "__init__") 1487 (.ref 912),en P (S "__static_attributes__") 1499 (.ref 913),en P (S "__dict__") 1501 (.ref 916),en P (S "__weakref__") 1503 (.ref 917),en P (S "__doc__") 1504 .none] 4}),
 (Mt P 915 "World" 1465),
 (xy P 916 1500),
 (uY P 917 1502 915),
 (nV P 918 915),
 (nX P 919 915)],
 dR P (.str (S "ledgerspeak.world") 1463) 3 138 142 920 1507]
def Wk(P:abK):BT:=mK (Wj P) [dR P (.str (S "ledgerspeak.world") 1463) 1 141 145 941 1536,
 [g9 P "spot_in" 1550 952 142,
 (iP P 732 951),
 (bW P 948),
 (bS P 949),
 (fD P 950 "spot_in" 146),
 (sH P 951 "spot_in" 1545 "spot_in" 732 2),
 (sI P 952 "spot_in" 146 "ledgerspeak.world" 1463)],
 dR P (.str (S "ledgerspeak.world") 1463) 2 143 147 953 1551,
 [g9 P "worth_in" 1580 973 145,
 (iP P 759 972),
 (bW P 967),
 (bS P 968),
 (Bo P 969 "world" 1575 "expr"),
 (sJ P 970 "world" 1577),
 (fD P 971 "worth_in" 149),
 (nv P 972 "worth_in" 1572 "worth_in" 759 2 1578),
 (sI P 973 "worth_in" 149 "ledgerspeak.world" 1463)],
 dR P (.str (S "ledgerspeak.world") 1463) 3 146 150 974 1581,
 [i6 P "ledgerspeak.arithdeeds" 1612 148],
 dR P (.str (S "ledgerspeak.arithdeeds") 1612) 2 149 154 995 1614]
def Wl(P:abK):BT:=mK (Wk P) [dR P (.str (S "ledgerspeak.arithdeeds") 1612) 1 151 156 1009 1637,
 [g9 P "put_rows" 1658 1022 152,
 (iP P 808 1021),
 (bW P 1016),
 (bS P 1017),
 (uZ P 1018 "world" 1652 "rows" "worth"),
 (sJ P 1019 "world" 1655),
 (fD P 1020 "put_rows" 157),
 (nv P 1021 "put_rows" 1649 "put_rows" 808 3 1656),
 (sI P 1022 "put_rows" 157 "ledgerspeak.arithdeeds" 1612),
 (i6 P "ledgerspeak.program" 1659 152),
 (g9 P "Program" 1704 1047 153),
 (iP P 811 1028),
 (bW P 1023),
 (nW P 1024),
 (Hv P 1025 1668 "ledgerspeak.program" 1659 "Program" 811 1684 1037 "using" 1691 1044 1697),
 (bW P 1026),
 (HB P 1027 813 1036 820 1043),
 (Bj P 1028 "Program" 1663 811),
 (Bk P 1029 1025 "ledgerspeak.program" 1659),
 (.ins 1030 (jR [.bool false])),
 (bW P 1031),
 (bS P 1032),
 (Hz P 1033 "self" 1676 "name" "data" "files" "procedures" "is_initial"),
 (bW P 1034),
 (gC P 1035 "__init__" "Program.__init__" 159 0),
 (nv P 1036 "__init__" 1673 "Program.__init__" 813 6 1682),
 (HC P 1037 "Program.__init__" 159 "ledgerspeak.program" 1659),
 (bW P 1038),
 (bS P 1039),
 (sJ P 1040 "self" 1688),
 (bW P 1041),
 (gC P 1042 "using" "Program.using" 159 1),
 (nv P 1043 "using" 1685 "Program.using" 820 1 1689),
 (iZ P 1044 "using" "Program.using" 159 1 "ledgerspeak.program" 1659),
 (HA P 1045 "data" 1692 "files" "is_initial" "name" "procedures"),
 (Mu P 1046 1668 "ledgerspeak.program" 1659 811 1684 1037 "using" 1691),
 (Mt P 1047 "Program" 1661),
 (xy P 1048 1698),
 (uY P 1049 1700 1047),
 (nV P 1050 1047),
 (nX P 1051 1047),
 (i6 P "law_pq0650_01" 1705 153)]]
def Wm(P:abK):BT:=mK (Wl P) [dR P (.str (S "law_pq0650_01") 1705) 2 154 161 1052 1707,
 [g9 P "_law_laid" 1737 1073 156,
 (iP P 835 1072),
 (.ins 1066 (jR [.int 0 1725])),
 (bW P 1067),
 (bS P 1068),
 (Hz P 1069 "above" 1729 "name" "offset" "shape" "often" "item"),
 (bW P 1070),
 (fD P 1071 "_law_laid" 163),
 (nv P 1072 "_law_laid" 1726 "_law_laid" 835 5 1735),
 (Bl P 1073 "_law_laid" 163 1066 "law_pq0650_01" 1705)],
 dR P (.str (S "law_pq0650_01") 1705) 2 157 164 1074 1738,
 [g9 P "_law_octets" 1762 1092 159,
 (iP P 862 1091),
 (bW P 1088),
 (bS P 1089),
 (fD P 1090 "_law_octets" 166),
 (sH P 1091 "_law_octets" 1757 "_law_octets" 862 1),
 (sI P 1092 "_law_octets" 166 "law_pq0650_01" 1705),
 (g9 P "_law_name" 1772 1102 160),
 (iP P 866 1101),
 (bW P 1093),
 (bW P 1094),
 (.ins 1095 (jR [.ref 1093,.ref 1094,.none])),
 (bW P 1096),
 (bS P 1097),
 (.ins 1098 (jR [.str (S "name") 1766,.str (S "qualifiers") 1767,.str (S "subscripts") 1768,.str (S "part") 1769])),
 (bW P 1099),
 (fD P 1100 "_law_name" 167),
 (nv P 1101 "_law_name" 1763 "_law_name" 866 4 1770),
 (Bl P 1102 "_law_name" 167 1095 "law_pq0650_01" 1705)],
 dR P (.str (S "law_pq0650_01") 1705) 1 161 168 1103 1773,
 [g9 P "_law_ref" 1790 1114 162,
 (iP P 881 1113),
 (bW P 1110),
 (bS P 1111),
 (fD P 1112 "_law_ref" 169),
 (sH P 1113 "_law_ref" 1785 "_law_ref" 881 3),
 (sI P 1114 "_law_ref" 169 "law_pq0650_01" 1705)],
 dR P (.str (S "law_pq0650_01") 1705) 2 163 170 1115 1791]
def QY(P:abK):BT:=mK (Wm P) [[g9 P "_law_told" 1818 1133 165,
 (iP P 921 1132),
 (bW P 1129),
 (bS P 1130),
 (fD P 1131 "_law_told" 172),
 (sH P 1132 "_law_told" 1813 "_law_told" 921 5),
 (sI P 1133 "_law_told" 172 "law_pq0650_01" 1705)],
 dR P (.str (S "law_pq0650_01") 1705) 1 166 173 1134 1819]
theorem pc0(w:abR):(λos=>abZ abS PT w 11 (some (.ref 6)) 1 (nat_lit 305) ⟨T0 w.params,nat_lit 15,au, #[],abM,nat_lit 187,os⟩ (eK ((bd.drop (nat_lit 0)).take (nat_lit 3)) ⟨0,0,0,0⟩))=
  λos=>some (.next,⟨T1 w.params,nat_lit 51,au, #[],abM,nat_lit 236,os⟩,iH,⟨5,0,13,35⟩):=by
 rw [eT,fC];kernel_rfl
theorem pc1(w:abR):(λos=>abZ abS PT w 11 (some (.ref 6)) 1 (nat_lit 214) ⟨T1 w.params,nat_lit 51,au, #[],abM,nat_lit 236,os⟩ (eK ((bd.drop (nat_lit 3)).take (nat_lit 1)) ⟨5,0,13,35⟩))=
  λos=>some (.next,⟨T2 w.params,nat_lit 63,au, #[],abM,nat_lit 252,os⟩,iH,⟨14,0,15,8⟩):=by
 rw [eT,fC];kernel_rfl
theorem pc2(w:abR):(λos=>abZ abS PT w 11 (some (.ref 6)) 1 (nat_lit 214) ⟨T2 w.params,nat_lit 63,au, #[],abM,nat_lit 252,os⟩ (eK ((bd.drop (nat_lit 4)).take (nat_lit 1)) ⟨14,0,15,8⟩))=
  λos=>some (.next,⟨T3 w.params,nat_lit 75,au, #[],abM,nat_lit 268,os⟩,iH,⟨16,0,17,8⟩):=by
 rw [eT,fC];kernel_rfl
theorem pc3(w:abR):(λos=>abZ abS PT w 11 (some (.ref 6)) 1 (nat_lit 214) ⟨T3 w.params,nat_lit 75,au, #[],abM,nat_lit 268,os⟩ (eK ((bd.drop (nat_lit 5)).take (nat_lit 1)) ⟨16,0,17,8⟩))=
  λos=>some (.next,⟨T4 w.params,nat_lit 87,au, #[],abM,nat_lit 284,os⟩,iH,⟨18,0,19,8⟩):=by
 rw [eT,fC];kernel_rfl
theorem pc4(w:abR):(λos=>abZ abS PT w 11 (some (.ref 6)) 1 (nat_lit 241) ⟨T4 w.params,nat_lit 87,au, #[],abM,nat_lit 284,os⟩ (eK ((bd.drop (nat_lit 6)).take (nat_lit 4)) ⟨18,0,19,8⟩))=
  λos=>some (.next,⟨T5 w.params,nat_lit 99,au, #[],abM,nat_lit 306,os⟩,iH,⟨24,0,24,8⟩):=by
 rw [eT,fC];kernel_rfl
theorem pc5(w:abR):(λos=>abZ abS PT w 11 (some (.ref 6)) 1 (nat_lit 267) ⟨T5 w.params,nat_lit 99,au, #[],abM,nat_lit 306,os⟩ (eK ((bd.drop (nat_lit 10)).take (nat_lit 1)) ⟨24,0,24,8⟩))=
  λos=>some (.next,⟨T6 w.params,nat_lit 130,au, #[],abM,nat_lit 350,os⟩,iH,⟨25,0,35,77⟩):=by
 rw [eT,fC];kernel_rfl
theorem pc6(w:abR):(λos=>abZ abS PT w 11 (some (.ref 6)) 1 (nat_lit 366) ⟨T6 w.params,nat_lit 130,au, #[],abM,nat_lit 350,os⟩ (eK ((bd.drop (nat_lit 11)).take (nat_lit 1)) ⟨25,0,35,77⟩))=
  λos=>some (.next,⟨T7 w.params,nat_lit 177,au, #[],abM,nat_lit 428,os⟩,iH,⟨36,0,73,103⟩):=by
 rw [eT,fC];kernel_rfl
theorem pc7(w:abR):(λos=>abZ abS PT w 11 (some (.ref 6)) 1 (nat_lit 349) ⟨T7 w.params,nat_lit 177,au, #[],abM,nat_lit 428,os⟩ (eK ((bd.drop (nat_lit 12)).take (nat_lit 4)) ⟨36,0,73,103⟩))=
  λos=>some (.next,⟨T8 w.params,nat_lit 224,au, #[],abM,nat_lit 495,os⟩,iH,⟨100,0,104,16⟩):=by
 rw [eT,fC];kernel_rfl
theorem pc8(w:abR):(λos=>abZ abS PT w 11 (some (.ref 6)) 1 (nat_lit 344) ⟨T8 w.params,nat_lit 224,au, #[],abM,nat_lit 495,os⟩ (eK ((bd.drop (nat_lit 16)).take (nat_lit 14)) ⟨100,0,104,16⟩))=
  λos=>some (.next,⟨T9 w.params,nat_lit 289,au, #[],abM,nat_lit 587,os⟩,iH,⟨164,0,164,10⟩):=by
 rw [eT,fC];kernel_rfl
theorem pc9(w:abR):(λos=>abZ abS PT w 11 (some (.ref 6)) 1 (nat_lit 346) ⟨T9 w.params,nat_lit 289,au, #[],abM,nat_lit 587,os⟩ (eK ((bd.drop (nat_lit 30)).take (nat_lit 3)) ⟨164,0,164,10⟩))=
  λos=>some (.next,⟨V7 w.params,nat_lit 332,au, #[],abM,nat_lit 661,os⟩,iH,⟨195,0,196,38⟩):=by
 rw [eT,fC];kernel_rfl
theorem Wn(w:abR):(λos=>abZ abS PT w 11 (some (.ref 6)) 1 (nat_lit 330) ⟨V7 w.params,nat_lit 332,au, #[],abM,nat_lit 661,os⟩ (eK ((bd.drop (nat_lit 33)).take (nat_lit 13)) ⟨195,0,196,38⟩))=
  λos=>some (.next,⟨V8 w.params,nat_lit 402,au, #[],abM,nat_lit 749,os⟩,iH,⟨231,0,232,84⟩):=by
 rw [eT,fC];kernel_rfl
theorem Wo(w:abR):(λos=>abZ abS PT w 11 (some (.ref 6)) 1 (nat_lit 335) ⟨V8 w.params,nat_lit 402,au, #[],abM,nat_lit 749,os⟩ (eK ((bd.drop (nat_lit 46)).take (nat_lit 12)) ⟨231,0,232,84⟩))=
  λos=>some (.next,⟨V9 w.params,nat_lit 473,au, #[],abM,nat_lit 847,os⟩,iH,⟨299,0,299,13⟩):=by
 rw [eT,fC];kernel_rfl
theorem Wq(w:abR):(λos=>abZ abS PT w 11 (some (.ref 6)) 1 (nat_lit 320) ⟨V9 w.params,nat_lit 473,au, #[],abM,nat_lit 847,os⟩ (eK ((bd.drop (nat_lit 58)).take (nat_lit 13)) ⟨299,0,299,13⟩))=
  λos=>some (.next,⟨Wa w.params,nat_lit 537,au, #[],abM,nat_lit 939,os⟩,iH,⟨338,0,339,24⟩):=by
 rw [eT,fC];kernel_rfl
theorem Ws(w:abR):(λos=>abZ abS PT w 11 (some (.ref 6)) 1 (nat_lit 328) ⟨Wa w.params,nat_lit 537,au, #[],abM,nat_lit 939,os⟩ (eK ((bd.drop (nat_lit 71)).take (nat_lit 14)) ⟨338,0,339,24⟩))=
  λos=>some (.next,⟨Wb w.params,nat_lit 601,au, #[],abM,nat_lit 1030,os⟩,iH,⟨382,0,392,16⟩):=by
 rw [eT,fC];kernel_rfl
theorem Wt(w:abR):(λos=>abZ abS PT w 11 (some (.ref 6)) 1 (nat_lit 121) ⟨Wb w.params,nat_lit 601,au, #[],abM,nat_lit 1030,os⟩ (eK ((bd.drop (nat_lit 85)).take (nat_lit 4)) ⟨382,0,392,16⟩))=
  λos=>some (.next,⟨Wc w.params,nat_lit 629,au, #[],abM,nat_lit 1062,os⟩,iH,⟨407,0,408,49⟩):=by
 rw [eT,fC];kernel_rfl
theorem Wu(w:abR):(λos=>abZ abS PT w 11 (some (.ref 6)) 1 (nat_lit 329) ⟨Wc w.params,nat_lit 629,au, #[],abM,nat_lit 1062,os⟩ (eK ((bd.drop (nat_lit 89)).take (nat_lit 1)) ⟨407,0,408,49⟩))=
  λos=>some (.next,⟨We w.params,nat_lit 671,au, #[],abM,nat_lit 1125,os⟩,iH,⟨409,0,449,62⟩):=by
 rw [eT,fC];kernel_rfl
theorem Wv(w:abR):(λos=>abZ abS PT w 11 (some (.ref 6)) 1 (nat_lit 351) ⟨We w.params,nat_lit 671,au, #[],abM,nat_lit 1125,os⟩ (eK ((bd.drop (nat_lit 90)).take (nat_lit 18)) ⟨409,0,449,62⟩))=
  λos=>some (.next,⟨Wf w.params,nat_lit 725,au, #[],abM,nat_lit 1223,os⟩,iH,⟨514,0,519,87⟩):=by
 rw [eT,fC];kernel_rfl
theorem Ww(w:abR):(λos=>abZ abS PT w 11 (some (.ref 6)) 1 (nat_lit 348) ⟨Wf w.params,nat_lit 725,au, #[],abM,nat_lit 1223,os⟩ (eK ((bd.drop (nat_lit 108)).take (nat_lit 14)) ⟨514,0,519,87⟩))=
  λos=>some (.next,⟨Wg w.params,nat_lit 794,au, #[],abM,nat_lit 1322,os⟩,iH,⟨588,0,588,7⟩):=by
 rw [eT,fC];kernel_rfl
theorem Wx(w:abR):(λos=>abZ abS PT w 11 (some (.ref 6)) 1 (nat_lit 340) ⟨Wg w.params,nat_lit 794,au, #[],abM,nat_lit 1322,os⟩ (eK ((bd.drop (nat_lit 122)).take (nat_lit 12)) ⟨588,0,588,7⟩))=
  λos=>some (.next,⟨Wh w.params,nat_lit 870,au, #[],abM,nat_lit 1413,os⟩,iH,⟨646,0,652,70⟩):=by
 rw [eT,fC];kernel_rfl
theorem Wy(w:abR):(λos=>abZ abS PT w 11 (some (.ref 6)) 1 (nat_lit 164) ⟨Wh w.params,nat_lit 870,au, #[],abM,nat_lit 1413,os⟩ (eK ((bd.drop (nat_lit 134)).take (nat_lit 7)) ⟨646,0,652,70⟩))=
  λos=>some (.next,⟨Wi w.params,nat_lit 899,au, #[],abM,nat_lit 1465,os⟩,iH,⟨697,0,697,8⟩):=by
 rw [eT,fC];kernel_rfl
theorem Wz(w:abR):(λos=>abZ abS PT w 11 (some (.ref 6)) 1 (nat_lit 331) ⟨Wi w.params,nat_lit 899,au, #[],abM,nat_lit 1465,os⟩ (eK ((bd.drop (nat_lit 141)).take (nat_lit 4)) ⟨697,0,697,8⟩))=
  λos=>some (.next,⟨Wj w.params,nat_lit 941,au, #[],abM,nat_lit 1536,os⟩,iH,⟨722,0,726,35⟩):=by
 rw [eT,fC];kernel_rfl
theorem WA(w:abR):(λos=>abZ abS PT w 11 (some (.ref 6)) 1 (nat_lit 327) ⟨Wj w.params,nat_lit 941,au, #[],abM,nat_lit 1536,os⟩ (eK ((bd.drop (nat_lit 145)).take (nat_lit 11)) ⟨722,0,726,35⟩))=
  λos=>some (.next,⟨Wk w.params,nat_lit 1009,au, #[],abM,nat_lit 1637,os⟩,iH,⟨793,0,801,38⟩):=by
 rw [eT,fC];kernel_rfl
theorem WB(w:abR):(λos=>abZ abS PT w 11 (some (.ref 6)) 1 (nat_lit 347) ⟨Wk w.params,nat_lit 1009,au, #[],abM,nat_lit 1637,os⟩ (eK ((bd.drop (nat_lit 156)).take (nat_lit 5)) ⟨793,0,801,38⟩))=
  λos=>some (.next,⟨Wl w.params,nat_lit 1052,au, #[],abM,nat_lit 1707,os⟩,iH,⟨822,0,822,8⟩):=by
 rw [eT,fC];kernel_rfl
theorem WC(w:abR):(λos=>abZ abS PT w 11 (some (.ref 6)) 1 (nat_lit 351) ⟨Wl w.params,nat_lit 1052,au, #[],abM,nat_lit 1707,os⟩ (eK ((bd.drop (nat_lit 161)).take (nat_lit 11)) ⟨822,0,822,8⟩))=
  λos=>some (.next,⟨Wm w.params,nat_lit 1129,au, #[],abM,nat_lit 1813,os⟩,iH,⟨911,0,920,15⟩):=by
 rw [eT,fC];kernel_rfl
theorem WD(w:abR):(λos=>abZ abS PT w 11 (some (.ref 6)) 1 (nat_lit 74) ⟨Wm w.params,nat_lit 1129,au, #[],abM,nat_lit 1813,os⟩ (eK ((bd.drop (nat_lit 172)).take (nat_lit 2)) ⟨911,0,920,15⟩))=
  λos=>some (.next,⟨QY w.params,nat_lit 1141,au, #[],abM,nat_lit 1844,os⟩,iH,⟨932,0,951,15⟩):=by
 rw [eT,fC];kernel_rfl
end Mine.Lake
end
section
set_option maxHeartbeats 0
namespace Mine.Lake
open PySem PySem.W
theorem bH
  (h:abZ abS PT w 11 (some (.ref 6)) 1 n s (eK ((bd.drop a).take c) pos)=some (.next,s',iH,p'))
  (k:topRun abS PT w 11 (some (.ref 6)) N s'.abs (restOf (bd.drop (a+c)) sG iH p' qL)=some r):
  topRun abS PT w 11 (some (.ref 6)) (n+N) s.abs (restOf (bd.drop a) sG iH pos qL)=some r:=by
 have e:bd.drop a=(bd.drop a).take c++bd.drop (a+c):=by
  rw [<-List.drop_drop];exact (Sr c _).symm
 rw [e];refine piece_app (segRun_of (s:=s) (s':=s') ?_) k;have e2:piecesOf ((bd.drop a).take c) sG iH pos qL=eK ((bd.drop a).take c) pos:=by
  unfold piecesOf eK;rw [<-PySem.W.Fast.te12563942051412417395]
 rw [<-h, <-e2]
theorem C8(p:Pos):restOf (bd.drop 174) sG iH p qL=⟨doneF .next,iH,p,qL⟩:=by
 have:bd.drop 174=[]:=by kernel_rfl
 rw [this];rfl
noncomputable def WE:Nat:=12+(1+(nat_lit 305+(nat_lit 214+(nat_lit 214+(nat_lit 214+(nat_lit 241+(nat_lit 267+(nat_lit 366+(nat_lit 349+(nat_lit 344+(nat_lit 346+(nat_lit 330+(nat_lit 335+(nat_lit 320+(nat_lit 328+(nat_lit 121+(nat_lit 329+(nat_lit 351+(nat_lit 348+(nat_lit 340+(nat_lit 164+(nat_lit 331+(nat_lit 327+(nat_lit 347+(nat_lit 351+(nat_lit 74+(nat_lit 3)))))))))))))))))))))))))))
def sT(P:abK)(os:acy):SharedT:=⟨QY P,nat_lit 1141,au, #[],abM,nat_lit 1844,os⟩
theorem Mv(w:abR)(os:acy):topRun abS PT w 11 (some (.ref 6)) (nat_lit 3) (sT w.params os).abs (restOf (bd.drop (172+2)) sG iH ⟨932,0,951,15⟩ qL)=some (sT w.params os).abs:=by
 show topRun abS PT w 11 (some (.ref 6)) (nat_lit 3) (sT w.params os).abs (restOf (bd.drop 174) sG iH ⟨932,0,951,15⟩ qL)=_;rw [C8,eT,PySem.W.Fast.te14082659384304107361];kernel_rfl
theorem C9(w:abR)(os:acy):segRun abS PT w 11 (some (.ref 6)) 1 1 (aaG ⟨T0 w.params,nat_lit 15,au, #[],abM,nat_lit 187,os⟩) (blockOf bd sG iH ⟨0,0,0,0⟩ qL)=some (.next,aaG ⟨T0 w.params,nat_lit 15,au, #[],abM,nat_lit 187,os⟩,iH,⟨0,0,0,0⟩):=by
 kernel_rfl
theorem Mw(w:abR)(os:acy):topGo abS PT w 11 (some (.ref 6)) 12 ⟨aci w.params, #[],abM,adf,os⟩ (topStub PT)=some (aaG ⟨T0 w.params,nat_lit 15,au, #[],abM,nat_lit 187,os⟩,⟨denote abS iH,iH,⟨0,0,0,0⟩,qL⟩):=by
 rw [eT,PySem.W.Fast.te15667345088766844465,PySem.W.Fast.te11892475500146522536];kernel_rfl
theorem HE(w:abR)(os:acy):topRun abS PT w 11 (some (.ref 6)) WE ⟨aci w.params, #[],abM,adf,os⟩ (topStub PT)=some (sT w.params os).abs:=
 go_top (Mw w os) (piece_block (C9 w os)
  (bH (congrFun (pc0 w) os) (bH (congrFun (pc1 w) os) (bH (congrFun (pc2 w) os) (bH (congrFun (pc3 w) os) (bH (congrFun (pc4 w) os) (bH (congrFun (pc5 w) os) (bH (congrFun (pc6 w) os) (bH (congrFun (pc7 w) os) (bH (congrFun (pc8 w) os) (bH (congrFun (pc9 w) os) (bH (congrFun (Wn w) os) (bH (congrFun (Wo w) os) (bH (congrFun (Wq w) os) (bH (congrFun (Ws w) os) (bH (congrFun (Wt w) os) (bH (congrFun (Wu w) os) (bH (congrFun (Wv w) os) (bH (congrFun (Ww w) os) (bH (congrFun (Wx w) os) (bH (congrFun (Wy w) os) (bH (congrFun (Wz w) os) (bH (congrFun (WA w) os) (bH (congrFun (WB w) os) (bH (congrFun (WC w) os) (bH (congrFun (WD w) os) (Mv w os)))))))))))))))))))))))))))
theorem opens: ∀w:abR,(fencedOpening abS PT w 20000).map (λs=>(s.heap,s.gens,s.drawn,s.toks))=some (aci w.params,aaN [],abM,adf):=
 boot_open (by kernel_rfl) (by decide) (λs=>by kernel_rfl)
def hT(P:abK):Heap:=absHeap (QY P) 1141 au
theorem Mx(w:abR)(os:acy):(staticsOk (adB PT.main.body) (aci w.params) (hT w.params)&&namesBound PT (hT w.params)&&gensDone ⟨hT w.params, #[],abM,1844,os⟩&&laidKept (aci w.params) (hT w.params))=true:=by kernel_rfl
theorem My(w:abR):((hT w.params).accountedOkI (adB PT.main.body)&&(hT w.params).isNs abN&&(hT w.params).isNs abW&&(hT w.params).bmainOk)=true:=by kernel_rfl
theorem Mz(w:abR):(hT w.params).bltView=bltViewBooted:=by kernel_rfl
end Mine.Lake
end
section
set_option maxHeartbeats 400000
namespace Mine.Lake
open PySem PySem.W PyProof.Rows PySem.Calls
@[reducible] noncomputable def RL:OpenLaw:=Hn
@[reducible] def RR:OpenRow:=RL.row
theorem zK(P:abK)(os:acy):(sT P os).abs.heap=hT P:=by kernel_rfl
theorem zL(P:abK)(os:acy):(sT P os).abs.gens= #[]:=by kernel_rfl
theorem HF(P:abK):(hT P).objs.size=1141:=absHeap_size ..
theorem HG(w:abR):(aci w.params).isNs abN=true:=by kernel_rfl
theorem HH(w:abR):(aci w.params).objs.size=11:=by kernel_rfl
theorem Dd(w:abR):(aci w.params).nsMap abN "__annotations__"=some (.ref 6):=by kernel_rfl
theorem HJ(w:abR)(os:acy)(z:(⟨aci w.params, #[],abM,adf,os⟩:Shared).asleep):
  TopRan PT w ⟨aci w.params, #[],abM,adf,os⟩ (sT w.params os).abs/\(sT w.params os).abs.asleep:=by
 have h6:=HE w os;rw [<-table_eq_tree] at h6;have e1:=zK w.params os;have e2:=zL w.params os;have L1:=Mx w os;have L2:=My w;have L3:=Mz w;have B1:=HG w;have B2:=HH w;have B3:=Dd w;have L1':(⟨hT w.params, #[],abM,1844,os⟩:Shared)=(sT w.params os).abs:=by kernel_rfl
 rw [L1', <-e1] at L1;rw [<-e1] at L2 L3;generalize aci w.params=B at*;generalize (sT w.params os).abs=s₁ at*;obtain ⟨a,l,os',fr⟩:=topRun_spec _ _ _ _ z h6;obtain ⟨hs,hlk⟩:=eJ.mp L1;obtain ⟨hs,hgd⟩:=eJ.mp hs;obtain ⟨hs,hnb⟩:=eJ.mp hs;obtain ⟨k1,k4⟩:=eJ.mp L2;obtain ⟨k1,k3⟩:=eJ.mp k1;obtain ⟨k1,k2⟩:=eJ.mp k1;refine ⟨⟨a,l,abe os',λb o hb hn=>fr b o (by have:=ik hb;rw [B2] at this;exact this) (λq=>hn (.inl q)) (λq=>hn (.inr (.inl q))) (λq=>hn (.inr (.inr ((QQ B1 _).trans (B3.trans q))))) hb,
  Heap.accountedI_of_ok k1,statics_of_ok hs,Pin.keysAreStrs_of k2,λx hx=>(Pin.builtinOf_eq k3 x).trans (Heap.of_bltView k3 L3 x hx),?_,gens_of_done hgd,names_of_bound hnb,laid_of_kept hlk⟩,Fh l z⟩
 obtain ⟨bm,ob,a,_,c,d,f,_⟩:=Heap.bmainOk_spec k4;exact ⟨bm,ob,(QQ k2 _).trans a,c,d,f⟩
theorem zM(w:abR):(∃s,AfterRun (opening PT) w s)/\ ∀s,AfterRun (opening PT) w s-> ∃s₀,fenceModules? PT s=some s₀/\s₀.gens= #[]/\ ∃s₁,TopRan PT w s₀ s₁/\s₁.asleep/\s₁.gens= #[]/\s₁.heap=hT w.params:=by
 have h:=opens w;rw [<-table_eq_tree] at h;obtain ⟨s₀,h2,e⟩:=eR.mp h;obtain ⟨s,h4,h5⟩:=PQ.mp h2;have A:=AfterImport.of_importEnds h4;refine ⟨⟨s,A⟩,λs' hs'=>?_⟩;obtain rfl:s'=s:=AfterImport.unique hs' A;have z:s₀.asleep:=Fh (fence_lifeW h5) A.life;obtain ⟨hp,gs,d,k,os⟩:=s₀;have e1:hp=aci w.params:=congrArg Prod.fst e;have e2:gs= #[]:=congrArg (λx=>x.2.1) e;have e3:d=abM:=congrArg (λx=>x.2.2.1) e;have e4:k=adf:=congrArg (λx=>x.2.2.2) e;subst e1 e2 e3 e4;have t:=HJ w os z;exact ⟨_,h5,rfl,_,t.1,t.2,zL ..,zK ..⟩
theorem HK(P:abK):(hT P).get? 1140=some (Qx (S "law") (S "law") (top 173) .none (.str (S "law_pq0650_01") 1705) (.ref 1139)):=by kernel_rfl
theorem zN(P:abK):(hT P).nsMap abN (S "law")=some (.ref 1140):=by kernel_rfl
theorem K6(P:abK):(hT P).isNs abN=true:=by kernel_rfl
theorem HL:PT.theDef (S "law")=some (iX (top 173),iY (top 173),lu (top 173)):=by kernel_rfl
theorem MA:(iX (top 173)).defaults=[]:=by kernel_rfl
theorem MB:kwWritten? (iX (top 173)).kwonlyargs (iX (top 173)).kw_defaults=some []:=by kernel_rfl
theorem MC(P:abK)(h:Heap)(e:hT P=h):isTheDefsW PT h (S "law"):=by
 subst e;refine ⟨1140,_,_,_,_,_,(QQ (K6 P) _).trans (zN P),HK P,rfl,HL,rfl,rfl,rfl,rfl,rfl,rfl,rfl,rfl,.inl ⟨MA,rfl⟩,[],MB,.inl ⟨rfl,rfl⟩⟩
theorem De:((frees RR.toRowW&&RR.toRowW.within.isEmpty)=true):=by kernel_rfl
theorem xA:opensWell PT=true:=by kernel_rfl
theorem u6:TablesWhole.wModule TablesWhole.holds PT.main=true:=by kernel_rfl
theorem xB:PT.tablesWhole=true:=by
 unfold Program.tablesWhole TablesWhole.wProgram;rw [u6];kernel_rfl
theorem HM(args:List WData):RR.toRowW.claim.post args (.bool true) args=true:=by kernel_rfl
theorem row_bare:PT.bare:=⟨by kernel_rfl,by kernel_rfl,by kernel_rfl,by kernel_rfl,by kernel_rfl,xB⟩
theorem row_pre:RR.toRowW.claim.pre [.list [.int 3,.int 1]]=true:=by kernel_rfl
theorem HN:(Md [.list [.int 3,.int 1]]&&RR.toRowW.returnsAt [.list [.int 3,.int 1]])=true:=by kernel_rfl
theorem lA:RR.toRowW.promised:=⟨_,row_pre,HN⟩
theorem u7:RR.name=S "law":=by kernel_rfl
end Mine.Lake
end
section
set_option maxHeartbeats 0
namespace Mine.Lake
open PySem PySem.W PyProof.Rows
def K7:OpenLaw:={prog:=PT,name:=S "law",about:=[S "arith_faults"],foot:=13,most:=some 63,bound:=none,writes:=false}
theorem QZ:sreFenced PT.main=true:=by kernel_rfl
theorem Q0:((moduleNames PT.main.body).isEmpty||lookedIntoSs (moduleNames PT.main.body) PT.main.body)=true:=by kernel_rfl
theorem Q2:namesResolve PT=true:=by kernel_rfl
theorem Q3:(PT.boundNames.all λn=> !worldNames.contains n)=true:=by kernel_rfl
theorem Q4:noRoadLSs {strict:= !(adB PT.main.body).all cThrough.contains,foot:=none,bare:=(["vars","dir","locals"]:List Str).filter (readsOut PT PT.main.body)} PT.main.body=true:=by kernel_rfl
theorem Q5:(namesMeet PT PT.main.body λU n=>attrL n)=true:=by kernel_rfl
theorem Q6:looksOpen PT=true:=by
 unfold looksOpen;exact acC (acC (acC (acC (acC QZ Q0) Q2) Q3) Q4) Q5
theorem Q7:K7.row.wellSaid=true:=by
 unfold OpenRow.wellSaid OpenRow.partSaid;refine acC (acC ?_ (by kernel_rfl)) (by kernel_rfl)
 iterate 13 refine acC ?_ (by kernel_rfl)
 exact Q6
theorem Q8:(K7.bound'.all λn=> !builtinNamed n||K7.about==[n]|| !K7.reads n)=true:=by kernel_rfl
theorem MD:(namesMeet K7.prog K7.above λU n=> !K7.own.contains n)=true:=by kernel_rfl
theorem Bp:Mo K7=true:=by
 unfold Mo
 iterate 18 refine acC ?_ ?_
 all_goals first|with_reducible exact Q7|with_reducible exact Q8|with_reducible exact MD|kernel_rfl
theorem Q9:Mo Hn=true:=Bp
end Mine.Lake
end
section
namespace Mine.Lake
namespace MP
open PySem PySem.W PyProof.Rows
open Sem (wp)
noncomputable def fR(id:String):Bool:= !(guardIds.contains id||aa1.contains id)
def i7:Code->Bool
 | .builtin id _=>fR id
 |_=>true
def Cln(Γ:Ctx):Prop:=i7 Γ.code=true/\ ∀q∈Γ.below,i7 q.1=true
def wpAny{α:Type}(M:ab0)(A:Around)(t:Sem α)(Q:α->Shared->Prop)(E:Value->Shared->Prop)(s:Shared):Prop:=
 ∀Γ p,Γ.In A->Cln Γ->wp M Γ t (λa U s'=>Q a s') (λe U s'=>E e s') p s
def codeAny(M:ab0)(A:Around)(c:Code)(R:ab6->Shared->Prop)(s:Shared):Prop:=
 i7 c=true/\ ∀Γ p,Γ.code=c->Γ.Below A->(∀q∈Γ.below,i7 q.1=true)->wpCode M Γ R p s
section
variable{α β:Type}{M:ab0}{A:Around}{E:Value->Shared->Prop}{s:Shared}{c:Code}{R:ab6->Shared->Prop}{env:Env}{prog:Program}{w:abR}
theorem Kl{Q:α->Shared->Prop}(h:ax M A t Q E s):wpAny M A t Q E s:=λΓ p i U=>h Γ p i
theorem K8{p:Prop}(h:p:=by kernel_rfl):p:=h
theorem kiA{p:Prop}(h:p:=by exact λh=>h):p:=h
theorem wpAny_pure{Q:α->Shared->Prop}(h:Q a s):wpAny M A (pure a) Q E s:=λU U U U=>h
theorem wpAny_throw{Q:α->Shared->Prop}(h:E e s):wpAny M A (throw e:Sem α) Q E s:=λU U U U=>h
theorem wpAny_mono{Q Q':α->Shared->Prop}(h:wpAny M A t Q E s)(x: ∀a s,Q a s->Q' a s)(y: ∀e s,E e s->E' e s):wpAny M A t Q' E' s:=
 λΓ p i k=>H0 M Γ t (λa U s=>x a s) (λe U s=>y e s) p s (h Γ p i k)
theorem wpAny_bind{Q:β->Shared->Prop}(h:wpAny M A m (λa s'=>wpAny M A (f a) Q E s') E s):wpAny M A (m>>=f) Q E s:=λΓ p i k=>
 (Sem.wp_bind' ..).symm▸H0 M Γ m (λU p' U x=>x Γ p' i k) (λU U U x=>x) p s (h Γ p i k)
theorem sq{Q:β->Shared->Prop}(h:wpAny M A m P E s)(g: ∀a s',P a s'->wpAny M A (f a) Q E s'):wpAny M A (m>>=f) Q E s:=wpAny_bind (wpAny_mono h g λU U x=>x)
theorem wpAny_onRaise{Q:α->Shared->Prop}(h:wpAny M A m Q (λe s'=>wpAny M A (k e) (λU s''=>E e s'') E s') s):wpAny M A (m.onRaise k) Q E s:=λΓ p i c=>
 (Sem.wp_onRaise ..).symm▸H0 M Γ m (λU U U x=>x) (λU p' U x=>x Γ p' i c) p s (h Γ p i c)
theorem wpAny_attempt{Q:Except Value α->Shared->Prop}(h:wpAny M A m (λa=>Q (.ok a)) (λe=>Q (.error e)) s):wpAny M A m.attempt Q E s:=λΓ p i c=>(Sem.wp_attempt ..).symm▸h Γ p i c
theorem wpAny_holding{Q:α->Shared->Prop}(h:wpAny M A m Q E s):wpAny M A (ab7 vs m) Q E s:=λΓ p i c=>(Sem.wp_holding ..).symm▸h Γ p i c
theorem wpAny_ite{c:Prop}[Decidable c]{Q:α->Shared->Prop}(h:if c then wpAny M A a Q E s else wpAny M A b Q E s):wpAny M A (if c then a else b) Q E s:=by
 by_cases x:c
 ·rw [if_pos x] at h ⊢;exact h
 ·rw [if_neg x] at h ⊢;exact h
theorem wpAny_standAt{Q:Unit->Shared->Prop}(h:Q () s):wpAny M A (ab8 pos) Q E s:=Kl (Y1 h)
theorem wpAny_rule{Q:Unit->Shared->Prop}(h:Q () s):wpAny M A (rule tag) Q E s:=Kl (aaO h)
theorem wpAny_point{Q:Unit->Shared->Prop}(h:Q () s):wpAny M A point Q E s:=Kl (y6 h)
theorem wpAny_load{Q:Obj->Shared->Prop}(ho:s.heap.get? a=some o)(h:Q o s):wpAny M A (load a) Q E s:=Kl (aaP ho h)
theorem wpAny_of_eq{Q:α->Shared->Prop}(h:t=pure a)(hQ:Q a s):wpAny M A t Q E s:=Kl (y7 h hQ)
theorem sd{Q:α->Shared->Prop}(h:wpAny M A (k ()) Q E s):wpAny M A (ab8 p>>=k) Q E s:=wpAny_bind (wpAny_standAt h)
theorem sh{Q:β->Shared->Prop}(h:wpAny M A m P E s)(g: ∀a s',P a s'->wpAny M A (f a) Q E s'):wpAny M A (ab7 vs m>>=f) Q E s:=sq (wpAny_holding h) g
theorem so(h:wpAny M A m Q E s):wpAny M A (operate vs m) Q E s:=λΓ p i c=>by rw [Sem.wp_operate];exact h Γ p i c
theorem codeAny_mono(h:codeAny M A c R s)(x: ∀r s,R r s->R' r s):codeAny M A c R' s:=⟨h.1,λΓ p e b k=>wpCode_mono x (h.2 Γ p e b k)⟩
theorem wpAny_run{Q:Flow->Shared->Prop}(hc:codeAny M (A.mark h) c (λr s'=>match r with| .ok f=>Q f s'| .error e=>E e s') s)(hnb:autoParam (h≠some byPass) aa2._auto_3):wpAny M A (run c h) Q E s:=
 λΓ p i k=>by
  rw [Sem.wp_run];exact hc.2 _ p rfl (i.enter c h p hnb) λq hq=>by
   rcases de.mp hq with rfl|hq
   ·exact k.1
   ·exact k.2 q hq
theorem wpAny_runValue(hc:codeAny M A c (λr s'=>match r with| .ok (.ret v)=>Q v s'| .ok _=>False| .error e=>E e s') s):wpAny M A (runValue c) Q E s:=λΓ p i k=>by
 rw [Sem.wp_runValue];exact hc.2 _ p rfl (i.enter c none p (by intro x;cases x)) λq hq=>by
  rcases de.mp hq with rfl|hq
  ·exact k.1
  ·exact k.2 q hq
theorem wpAny_call{pos:List Value}(hc:codeAny M A (.call f ⟨pos,kw⟩) (λr s'=>match r with| .ok (.ret v)=>Q v s'| .ok _=>False| .error e=>E e s') s):wpAny M A (call f pos kw) Q E s:=wpAny_runValue hc
theorem codeAny_of_tree(h:wpAny M (A.under c) (M.den c) (λfin s'=>match fin with| .done f=>R (.ok f) s'| .again c'=>c'.quiet=true/\codeAny M A c' R s') (λe s'=>R (.error e) s') s)(hk:autoParam (i7 c=true) hZ._auto_4):codeAny M A c R s:=
 ⟨hk,λΓ p e b k=>by
  subst e;refine (wpCode_iff_wp ..).mpr (H0 M Γ _ (λfin p' s' x=>?_) (λU U U x=>x) p s (h Γ p b.in ⟨hk,k⟩));induction fin with
  |done _=>exact x
  |again c'=>exact ⟨x.1,x.2.2 (Γ.goto c') p' rfl (b.goto c') k⟩⟩
theorem codeAny_loop'(hq:c.quiet=true)(I:Nat->Shared->Prop)
  (turn: ∀n s,I n s->wpAny M (A.under c) (M.den c) (λfin s'=>match fin with| .done f=>R (.ok f) s'| .again c'=>(c'=c/\ ∃m,m<n/\I m s')\/(c'.quiet=true/\codeAny M A c' R s')) (λe s'=>R (.error e) s') s)
  (n:Nat) (h:I n s) (hk:autoParam (i7 c=true) hZ._auto_4):codeAny M A c R s:=by
 induction n using Nat.strongRecOn generalizing s with
 |ind n ih=>
  refine codeAny_of_tree (wpAny_mono (turn n s h) (λfin s' x=>?_) λU U x=>x) hk;induction fin with
  |done _=>exact x
  |again c'=>
   refine x.elim (λy=>?_) λx=>x;refine ae λaA=>?_;obtain ⟨rfl,m,hm,z⟩:=y;refine aA ?_;exact ⟨hq,ih m hm z⟩
theorem codeAny_loop(hq:c.quiet=true)(I:Nat->Shared->Prop)
  (turn: ∀n s,I n s->wpAny M (A.under c) (M.den c) (λfin s'=>match fin with| .done f=>R (.ok f) s'| .again c'=>c'=c/\ ∃m,m<n/\I m s') (λe s'=>R (.error e) s') s)
  (n:Nat) (h:I n s) (hk:autoParam (i7 c=true) hZ._auto_4):codeAny M A c R s:=
 codeAny_loop' hq I (λn s x=>wpAny_mono (turn n s x) (λfin s' y=>by rcases fin with _|_;exact y;exact .inl y) λU U y=>y) n h hk
end
section
variable{α β:Type}{M:ab0}{A:Around}{E:Value->Shared->Prop}{s:Shared}{c:Code}{R:ab6->Shared->Prop}{env:Env}{prog:Program}{w:abR}
theorem wpAny_BinOp{l op r pos}(h:wpAny M A (eval l env) (λa s₁=>wpAny M A (eval r env) (λb s₂=>wpAny M A (acM op a b) Q E s₂) E s₁) E s):wpAny M A (eval (.BinOp l op r pos) env) Q E s:=by
 rw [eval_BinOp];exact sq h λU U h=>sh h λU U h=>sd (so h)
theorem wpAny_Compare1{l op r pos}(h:wpAny M A (eval l env) (λa s₁=>wpAny M A (eval r env) (λb s₂=>wpAny M A (abY op a b) Q E s₂) E s₁) E s)(hm:autoParam (acU op r=false) Ya._auto_1):wpAny M A (eval (.Compare l [op] [r] pos) env) Q E s:=by
 rw [eval_Compare1,acQ hm];exact sq h λU U h=>sh h λU U h=>sd (so h)
theorem wpAny_isTrue_Compare1{l op r pos whole}{Q:Bool->Shared->Prop}(h:wpAny M A (eval l env) (λa s₁=>wpAny M A (eval r env) (λb s₂=>wpAny M A (abY op a b) (λc s₃=>wpAny M A (adg c) Q E s₃) E s₂) E s₁) E s)
  (hm:autoParam (acU op r=false) Ya._auto_1):wpAny M A (acn (.Compare l [op] [r] pos) env whole) Q E s:=by
 rw [isTrue_Compare1,acQ hm];exact sq h λU U h=>sh h λU U h=>sd (sq (so h) λU U h=>wpAny_holding h)
theorem wpAny_If{test body orelse pos}{Q:Flow->Shared->Prop}(h:wpAny M A (acn test env (eval test env)) (λb s₂=>if b then wpAny M A (acr body env) Q E s₂ else wpAny M A (acr orelse env) Q E s₂) E s):wpAny M A (exec (.If test body orelse pos) env) Q E s:=by
 rw [exec_If];exact sd (sq h λU U h=>wpAny_ite h)
theorem wpAny_IfExp(h:wpAny M A (acn test env (eval test env)) (λb s₁=>if b then wpAny M A (eval body env) Q E s₁ else wpAny M A (eval orelse env) Q E s₁) E s):wpAny M A (eval (.IfExp test body orelse pos) env) Q E s:=by
 rw [arm_eval_IfExp];exact sq h λU U h=>wpAny_ite h
theorem wpAny_Return_some{e pos}{Q:Flow->Shared->Prop}(h:wpAny M A (eval e env) (λv=>Q (.ret v)) E s):wpAny M A (exec (.Return (some e) pos) env) Q E s:=by
 rw [exec_Return_some];exact sd (sq h λU U h=>wpAny_pure h)
theorem wpAny_execs_cons{st rest}{Q:Flow->Shared->Prop}(h:wpAny M A (exec st env) (λf s'=>match f with| .next=>wpAny M A (acr rest env) Q E s'|f=>Q f s') E s):wpAny M A (acr (st::rest) env) Q E s:=by
 rw [execs_cons];exact sq h λf U h=>by rcases f with _|_<;>first|exact h|exact wpAny_pure h
theorem wpAny_UnaryOp(h:wpAny M A (eval x env) (λv s₁=>wpAny M A (unaryOp op v) Q E s₁) E s):wpAny M A (eval (.UnaryOp op x pos) env) Q E s:=by
 rw [arm_eval_UnaryOp];exact sq h λU U h=>sd (wpAny_holding h)
theorem wpAny_isTrue_Not{Q:Bool->Shared->Prop}(h:wpAny M A (acn x env (eval x env)) (λb s₁=>Q (!b) s₁) E s):wpAny M A (acn (.UnaryOp .Not x pos) env whole) Q E s:=by
 rw [arm_isTrue_UnaryOp];exact sq h λU U h=>wpAny_pure h
theorem wpAny_isTrue_BoolOp{Q:Bool->Shared->Prop}(h:wpAny M A (adm op values env) Q E s):wpAny M A (acn (.BoolOp op values pos) env whole) Q E s:=by rw [arm_isTrue_BoolOp];exact h
theorem lB:adm op (x::rest) env=(acn x env (eval x env)>>=λb=>match op,b with| .And,false=>pure false| .Or,true=>pure true|_,_=>adm op rest env):=by rcases op with _|_<;>rfl
theorem wpAny_allTrue_Or_cons{Q:Bool->Shared->Prop}(h:wpAny M A (acn x env (eval x env)) (λb s₁=>if b then Q true s₁ else wpAny M A (adm .Or rest env) Q E s₁) E s):wpAny M A (adm .Or (x::rest) env) Q E s:=by
 rw [lB];exact sq h λb U h=>by rcases b with _|_;exact h;exact wpAny_pure h
theorem wpAny_allTrue_And_cons{Q:Bool->Shared->Prop}(h:wpAny M A (acn x env (eval x env)) (λb s₁=>if b then wpAny M A (adm .And rest env) Q E s₁ else Q false s₁) E s):wpAny M A (adm .And (x::rest) env) Q E s:=by
 rw [lB];exact sq h λb U h=>by rcases b with _|_;exact wpAny_pure h;exact h
theorem wpAny_isTrue_value{Q:Bool->Shared->Prop}(h:wpAny M A whole (λv s₁=>wpAny M A (adg v) Q E s₁) E s)(he:autoParam (acn e env whole=(do let v <-whole;ab8 e.pos;ab7 [v] (adg v))) hZ._auto_4):wpAny M A (acn e env whole) Q E s:=by
 rw [he];exact sq h λU U h=>sd (wpAny_holding h)
theorem Attribute_any_(h:wpAny (abJ prog w) A (eval value env) (λo s₁=>wpAny (abJ prog w) A (adL o attr true) Q E s₁) E s)
  (he:autoParam (eval (.Attribute value attr pos) env=(do
   let o <-eval value env
   ab8 pos.atName
   let r <-ab7 [o] (adL o attr true)
   letTemporaryGo value o r
   pure r)) Ya._auto_1):wpAny (abJ prog w) A (eval (.Attribute value attr pos) env) Q E s:=by
 rw [he];exact sq h λU U h=>sd (sh h λU U h=>wpAny_bind (Kl (PySem.wpAny_letTemporaryGo (wpAny_pure h))))
theorem kas_attr{Q:Unit->Shared->Prop}(h:wpAny M A (eval o env) (λov s₂=>wpAny M A (adM ov attr v) (λU s₃=>Q () s₃) E s₂) E s):wpAny M A (assign (.Attribute o attr pos) env v) Q E s:=by
 rw [PySem.assign_Attribute];exact sh h λU U h=>sd (sh h λU U h=>λΓ p U U=>by rw [Sem.wp_release];exact h)
theorem wpAny_bindName{Q:Unit->Shared->Prop}(h:wpAny M A (acm env x v) Q E s):wpAny M A (acW env x v) Q E s:=λΓ p i c=>by rw [Sem.wp_bindName];exact h Γ p i c
theorem wpAny_assign_Name{x pos v}{Q:Unit->Shared->Prop}(h:wpAny M A (acm env x v) Q E s):wpAny M A (assign (.Name x pos) env v) Q E s:=by
 rw [PySem.assign_Name];exact sd (wpAny_bindName h)
theorem wpAny_assignInOrder_more{Q:Unit->Shared->Prop}(h:wpAny M A (t x) (λU s₁=>wpAny M A (acp ts xs) Q E s₁) E s):wpAny M A (acp (t::ts) (x::xs)) Q E s:=sh h λU U h=>h
theorem wpAny_assign_Tuple{x1}{Q:Unit->Shared->Prop}(hh:A.handled=none)(ht:s.heap.IsTuple t items)(hn:(ab9 elts env).length=items.size)(hstar:(ab9 elts env).findIdx? (λU=>U.1)=none)
  (h: ∀h',eC s.heap.objs.size s.heap h'->wpAny (abJ prog w) A (acp ((ab9 elts env).map (λU=>U.2)) items.toList) Q E {s with heap:=h'}):wpAny (abJ prog w) A (assign (.Tuple elts x1 pos) env (.ref t)) Q E s:=by
 rw [arm_assign_Tuple];unfold unpack;rw [hn,hstar];exact sd (wpAny_bind (wpAny_holding (Kl (adA hh ht h))))
theorem spliced_cons{Q:List Value->Shared->Prop}(h:wpAny M A x (λv s₁=>wpAny M A (acd rest) (λvs s₂=>Q (v::vs) s₂) E s₁) E s):wpAny M A (acd ((false,x)::rest)) Q E s:=by
 (rewrite [acd];try with_reducible rfl);exact sq h λU U h=>wpAny_bind (wpAny_pure (sh h λU U h=>wpAny_pure h))
theorem spliced_nil{Q:List Value->Shared->Prop}(h:Q [] s):wpAny M A (acd []) Q E s:=Kl (aaw h)
theorem evalArgs_plain{Q:Args->Shared->Prop}(h:wpAny M A (acd ((false,x)::rest)) (λvs s'=>Q ⟨vs,[]⟩ s') E s):wpAny M A (ado f true ((false,x)::rest) []) Q E s:=by
 have e: ∀vs:List Value,(ab7 (vs++(none:Option Value).toList) (do let kw <-pure (([]:List Str).zip (<-evalAll []));let r <-pure vs;pure (Args.mk r kw)):Sem Args)=ab7 (vs++[]) (pure ⟨vs,[]⟩):=λU=>rfl;unfold ado;exact sq h λU U h=>wpAny_holding (wpAny_bind (wpAny_pure (wpAny_bind (wpAny_pure (wpAny_pure h)))))
theorem wpAny_Tuple_spliced{x1}(h:wpAny (abJ prog w) A (acd (ab1 pos (abU elts env))) (λvs s₁=>vs.length<=abQ/\Q (.ref s₁.heap.objs.size) {s₁ with heap:=s₁.heap.push {cls:=.type "tuple",data:=.seq vs.toArray}}) E s):wpAny (abJ prog w) A (eval (.Tuple elts x1 pos) env) Q E s:=by
 rw [arm_eval_Tuple];exact sd (sq h λU U h=>Kl (PySem.wpAny_newTuple h.2 h.1))
theorem wpAny_List_spliced(h:wpAny (abJ prog w) A (acd (ab1 pos (abU elts env))) (λvs s₁=>vs.length<=abQ/\Q (.ref s₁.heap.objs.size) {s₁ with heap:=s₁.heap.push {cls:=.type "list",data:=.seq vs.toArray}}) E s):wpAny (abJ prog w) A (eval (.List elts pos) env) Q E s:=by
 rw [arm_eval_List];exact sd (sq h λU U h=>Kl (PySem.wpAny_newList h.2 h.1))
theorem wpAny_Slice{lower upper step:Option bp}
  (h:wpAny M A (evalPart lower env) (λl s₁=>wpAny M A (evalPart upper env) (λu s₂=>wpAny M A (evalPart step env) (λst s₃=>Q (.ref s₃.heap.objs.size) {s₃ with heap:=s₃.heap.push {cls:=.type "slice",data:=.fields #[l,u,st]}}) E s₂) E s₁) E s):wpAny M A (eval (.Slice lower upper step p) env) Q E s:=by
 rw [arm_eval_Slice];exact sq h λU U h=>sh h λU U h=>sh h λU U h=>Kl (Qb h)
theorem oW(h:wpAny M A t Q E s):wpAny M A (t>>=λr=>ab7 [r] point>>=λU=>pure r) Q E s:=sq h λU U h=>wpAny_bind (wpAny_holding (wpAny_point (wpAny_pure h)))
theorem wpAny_keep{Q:α->Shared->Prop}(h:wpAny M A m Q E s):wpAny M A (m.keep vs) Q E s:=λΓ p i c=>by rw [Sem.wp_keep];exact h Γ p i c
theorem callWith_builtin{id:String}(hplain:args.any (λU=>U.1)=false)
  (h:wpAny M A (ado (.builtin id) true args []) (λa s₁=>wpAny M A (call (.builtin id) (first++a.pos) a.kw) Q E s₁) E s):wpAny M A (ab2 pos (.builtin id) first args []) Q E s:=by
 unfold ab2;refine sh h λU U h=>sd ?_;rw [hplain];exact oW h
theorem callWith_type(hplain:args.any (λU=>U.1)=false)
  (h:wpAny M A (ado (.type T) true args []) (λa s₁=>wpAny M A (call (.type T) (first++a.pos) a.kw) Q E s₁) E s):wpAny M A (ab2 pos (.type T) first args []) Q E s:=by
 unfold ab2;refine sh h λU U h=>sd ?_;rw [hplain];exact oW h
theorem callWith_function
  (h:wpAny M A (ado (.ref a) true args []) (λx s₁=>(s₁.heap.get? a=some o/\o.data=.func fd)/\wpAny M A (call (.ref a) (first++x.pos) x.kw) Q E s₁) E s):wpAny M A (ab2 pos (.ref a) first args []) Q E s:=by
 unfold ab2;refine sh h λU U h=>sd (wpAny_bind (m:=keeperOf (.ref a)) ?_);unfold keeperOf;refine wpAny_bind (wpAny_load h.1.1 ?_);rw [h.1.2];refine wpAny_pure ?_;cases args.any (λU=>U.1)
 ·dsimp only [List.any_nil,Bool.or_false];refine wpAny_ite ?_;split
  ·exact oW h.2
  ·exact oW (wpAny_keep h.2)
 ·exact oW (wpAny_keep h.2)
theorem callWith_builtin1{id:String}(h:wpAny M A t (λv s₁=>wpAny M A (call (.builtin id) [v]) Q E s₁) E s):wpAny M A (ab2 pos (.builtin id) [] [(false,t)] []) Q E s:=
 callWith_builtin rfl (evalArgs_plain (spliced_cons (wpAny_mono h (λU U h=>spliced_nil h) λU U e=>e)))
theorem callWith_type1(h:wpAny M A t (λv s₁=>wpAny M A (call (.type T) [v]) Q E s₁) E s):wpAny M A (ab2 pos (.type T) [] [(false,t)] []) Q E s:=
 callWith_type rfl (evalArgs_plain (spliced_cons (wpAny_mono h (λU U h=>spliced_nil h) λU U e=>e)))
theorem method1{id:String}(h:wpAny M A t (λv s₁=>wpAny M A (call (.builtin id) [o,v]) Q E s₁) E s):wpAny M A (ab2 pos (.builtin id) [o] [(false,t)] []) Q E s:=
 callWith_builtin rfl (evalArgs_plain (spliced_cons (wpAny_mono h (λU U h=>spliced_nil h) λU U e=>e)))
theorem HO{id:String}(h:wpAny M A t (λv s₁=>wpAny M A u (λx s₂=>wpAny M A (call (.builtin id) [o,v,x]) Q E s₂) E s₁) E s):wpAny M A (ab2 pos (.builtin id) [o] [(false,t),(false,u)] []) Q E s:=
 callWith_builtin rfl (evalArgs_plain (spliced_cons (wpAny_mono h (λU U h=>spliced_cons (wpAny_mono h (λU U h=>spliced_nil h) λU U e=>e)) λU U e=>e)))
theorem u9(z:items.size<=abQ)(hl:IsL s.heap l items n)(hq:Q .none {s with heap:=s.heap.update l (sr λxs=>xs.push v)}):wpAny (abJ prog w) A (call (.builtin "list.append") [.ref l,v]) Q E s:=
 Kl<|adS aah ⟨_,hl,rfl⟩ F.entry_list_append (F.args_list_append_2 _ _) (list_append l _ n v z) ⟨hl,hq⟩
theorem vc(z:items.size<=abQ)(y:items.size+items2.size<=abQ+1)(k: ¬(!items.isEmpty&&Nw (items.size+items2.size))=true)(hl:IsL s.heap l items n)(hb:IsL s.heap b items2 m)(hq:Q .none {s with heap:=s.heap.update l (sr λxs=>xs++items2)}):wpAny (abJ prog w) A (call (.builtin "list.extend") [.ref l,.ref b]) Q E s:=
 Kl<|adS aai ⟨_,hl,rfl⟩ F.entry_list_extend (F.args_list_extend_2 _ _) (AutoSeq1.list_extend_list_list_0 l _ n b _ m k z y) ⟨hl,hb,hq⟩
theorem ME{K:Type}[DecidableEq K]{knd:KeyKind prog w K}(hd:(d==adk)=false)(h:wpAny (abJ prog w) A x (λkey s₁=>wpAny (abJ prog w) A y (λdflt s₂=> ∃k f,knd.is k key=true/\s₂.heap.MapOf knd d f/\Q ((f k).getD dflt) {s₂ with toks:=s₂.toks+1}) E s₁) E s):wpAny (abJ prog w) A (ab2 pos (.builtin "dict.get") [.ref d] [(false,x),(false,y)] []) Q E s:=
 HO (wpAny_mono h (λU U h=>wpAny_mono h (λdflt U h=>h.elim λU h=>h.elim λU h=>Kl (call_meetsIn aa3 h.2.1.typeIs F.entry_dict_get (F.args_dict_get_3 _ _ _) (meets_dict_get_default knd d h.1 hd dflt) ⟨_,h.2.1,h.2.2⟩)) λU U e=>e) λU U e=>e)
theorem ia(h:wpAny M A (eval (.Name x np) env) (λf s₁=>wpAny M A (ab2 pos f [] (ab1 pos (abU args env)) (adp pos (acS keywords env))) Q E s₁) E s):wpAny M A (eval (.Call (.Name x np) args keywords pos) env) Q E s:=by
 have e:eval (.Call (.Name x np) args keywords pos) env=(eval (.Name x np) env>>=λf=>ab2 pos f [] (ab1 pos (abU args env)) (adp pos (acS keywords env))):=rfl;rw [e];exact wpAny_bind h
theorem wpAny_Call_ofName(h:wpAny M A (eval (.Name x np) env) (λf s₁=>wpAny M A (ab2 pos f [] (ab1 pos (abU args env)) (adp pos (acS keywords env))) Q E s₁) E s):wpAny M A (eval (.Call (.Name x np) args keywords pos) env) Q E s:=ia h
theorem wpAny_Call_NameR(h:wpAny M A (eval (.Name x np) env) (λf s₁=>wpAny M A (ab2 pos f [] (ab1 pos (abU args env)) []) Q E s₁) E s):wpAny M A (eval (.Call (.Name x np) args [] pos) env) Q E s:=ia h
theorem Call_name1(hs:abU [e] env=[(false,eval e env)])(h:wpAny M A (eval (.Name x np) env) (λf s₁=>wpAny M A (ab2 pos f [] [(false,eval e env)] []) Q E s₁) E s):wpAny M A (eval (.Call (.Name x np) [e] [] pos) env) Q E s:=
 ia (by rw [hs];exact h)
def MethodOn(prog:Program)(w:abR)(A:Around)(name:Str)(pos:Pos)(ov:Value)(trees:List (Bool×Sem Value))(Q:Value->Shared->Prop)(E:Value->Shared->Prop)(s:Shared):Prop:=
 ∃T id,PlainAttrs T/\Slot T name id/\ad0 (.builtin id)=pure (.type "method_descriptor")/\s.TypeIs ov T/\(∀a,ov=.ref a-> ∃ob,s.heap.get? a=some ob/\ob.dict=none)/\wpAny (abJ prog w) A (ab2 pos (.builtin id) [ov] trees []) Q E s
theorem i8(hbase:acJ o name env (eval o env)=eval o env)
  (hfew:ac8 (args.length+([]:List Keyword).length) trees []=true) (hline:(apos.endLine==pos.line)=true) (htrees:ab1 pos (abU args env)=trees)
  (h:wpAny (abJ prog w) A (eval o env) (λov s₁=>MethodOn prog w A name pos ov trees Q E s₁) E s):wpAny (abJ prog w) A (eval (.Call (.Attribute o name apos) args [] pos) env) Q E s:=by
 subst htrees;rw [arm_eval_Call,hbase];refine sq h λov s₁ h=>h.elim λT h=>h.elim λid h=>sd ?_;unfold methodCall;have e:ac8 (args.length+([]:List Keyword).length) (ab1 pos (abU args env)) (adp pos (acS [] env))=true:=hfew;have e':adi true o env apos pos=pure pos:=by unfold adi;simp [hline]
 rw [e];exact wpAny_bind (wpAny_holding (Kl (getMethod_builtin h.2.2.2.1 h.1 h.2.1 h.2.2.1 h.2.2.2.2.1 (wpAny_bind (wpAny_of_eq e' h.2.2.2.2.2)))))
theorem wpAny_Call_method0_late(hbase:acJ o name env (eval o env)=eval o env)(hline:(apos.endLine==pos.line)=true)
  (h:wpAny (abJ prog w) A (eval o env) (λov s₁=>MethodOn prog w A name pos ov [] Q E s₁) E s):wpAny (abJ prog w) A (eval (.Call (.Attribute o name apos) [] [] pos) env) Q E s:=i8 hbase rfl hline rfl h
theorem wpAny_Call_method1_late(hbase:acJ o name env (eval o env)=eval o env)(hline:(apos.endLine==pos.line)=true)(htrees:ab1 pos (abU [e] env)=[(false,eval e env)])
  (h:wpAny (abJ prog w) A (eval o env) (λov s₁=>MethodOn prog w A name pos ov [(false,eval e env)] Q E s₁) E s):wpAny (abJ prog w) A (eval (.Call (.Attribute o name apos) [e] [] pos) env) Q E s:=i8 hbase rfl hline htrees h
theorem wpAny_Call_method2_late(hbase:acJ o name env (eval o env)=eval o env)(hline:(apos.endLine==pos.line)=true)(htrees:ab1 pos (abU [e,f] env)=[(false,eval e env),(false,eval f env)])
  (h:wpAny (abJ prog w) A (eval o env) (λov s₁=>MethodOn prog w A name pos ov [(false,eval e env),(false,eval f env)] Q E s₁) E s):wpAny (abJ prog w) A (eval (.Call (.Attribute o name apos) [e,f] [] pos) env) Q E s:=i8 hbase rfl hline htrees h
theorem wpAny_callSpecial?_slot{id:String}{Q:Option Value->Shared->Prop}(hT:s.TypeIs self T)(h:Slot T name id)
  (hc:wpAny M A (call (.builtin id) (self::args) kw) (λv=>Q (some v)) E s):wpAny M A (ac4 self name args kw) Q E s:=by
 unfold ac4;refine wpAny_bind (Kl (adC hT h.lookup ?_));have e:=h.bind;simp only [e];exact wpAny_holding (wpAny_bind (wpAny_pure (sq hc λU U h=>wpAny_pure h)))
theorem codeAny_call_builtin_code{id:String}(hq:(abA id args).quiet=true)(h:wpAny (abJ prog w) A.in1 (abV id args) (λU s₁=>codeAny (abJ prog w) A (.builtin id args) R s₁) (λe s'=>R (.error e) s') s):codeAny (abJ prog w) A (.call (.builtin id) args) R s:=
 codeAny_of_tree (sq (m:=abV id args) (f:=λU=>again (.builtin id args)) h λU U h=>wpAny_pure ⟨hq,h⟩)
theorem codeAny_builtin{id:String}(hb:acj acE id=some b)(h:wpAny (abJ prog w) (A.under (.builtin id args)) (b args) (λfin s'=>match fin with| .done f=>R (.ok f) s'| .again c'=>c'.quiet=true/\codeAny (abJ prog w) A c' R s') (λe s'=>R (.error e) s') s)(hk:autoParam (fR id=true) vx._auto_1):codeAny (abJ prog w) A (.builtin id args) R s:=
 codeAny_of_tree (by
  have e:(abJ prog w).den (.builtin id args)=(match acj acE id with|some b=>b args|none=>unsupported ((withoutEnding? id "#data").getD id)):=rfl;rw [e,hb];exact h) hk
theorem codeAny_call_builtin_at{id:String}(hq:(abA id args).quiet=true)(hb:acj acE id=some b)
  (h:wpAny (abJ prog w) A.in1 (abV id args) (λU s₁=>wpAny (abJ prog w) (A.under (.builtin id args)) (b args) (λfin s'=>match fin with| .done f=>R (.ok f) s'| .again c'=>c'.quiet=true/\codeAny (abJ prog w) A c' R s') (λe s'=>R (.error e) s') s₁) (λe s'=>R (.error e) s') s) (hk:autoParam (fR id=true) vx._auto_1):codeAny (abJ prog w) A (.call (.builtin id) args) R s:=
 codeAny_call_builtin_code hq (wpAny_mono h (λU U h=>codeAny_builtin hb h hk) λU U x=>x)
theorem codeAny_call_builtin{id:String}(hp:plainId id=true)(hb:acj acE id=some b)
  (h:wpAny (abJ prog w) A.in1 (abV id args) (λU s₁=>wpAny (abJ prog w) A.in1 (b args) (λfin s'=>match fin with| .done f=>R (.ok f) s'| .again c'=>c'.quiet=true/\codeAny (abJ prog w) A c' R s') (λe s'=>R (.error e) s') s₁) (λe s'=>R (.error e) s') s) (hk:autoParam (fR id=true) vx._auto_1):codeAny (abJ prog w) A (.call (.builtin id) args) R s:=
 codeAny_call_builtin_at (adX hp args) hb (by rw [FC hp args];exact h) hk
theorem wpAny_call_entry{id:String}(h:Slot T name id)(hT:s.TypeIs self T)(hb:acj acE id=some b)
  (hc:wpAny (abJ prog w) A.in1 (b ⟨self::rest,[]⟩) (λfin s'=> ∃v,fin=.done (.ret v)/\Q v s') E s) (ha:autoParam (acN id ⟨self::rest,[]⟩) hZ._auto_4) (hk:autoParam (fR id=true) vx._auto_1):wpAny (abJ prog w) A (call (.builtin id) (self::rest)) Q E s:=
 wpAny_call (codeAny_call_builtin h.plain hb (Kl (h.check _ _ _ _ _ _ _ _ hT ha (wpAny_mono hc (λfin s' y=>by obtain ⟨v,rfl,y⟩:=y;exact y) λU U x=>x))) hk)
theorem call_function_entry{id:String}(hk:builtinKind id=none)(hp:plainId id=true)(hb:acj acE id=some b)(ha:acN id ⟨args,[]⟩)
  (hc:wpAny (abJ prog w) A.in1 (b ⟨args,[]⟩) (λfin s'=> ∃v,fin=.done (.ret v)/\Q v s') E s) (hcl:autoParam (fR id=true) vx._auto_1):wpAny (abJ prog w) A (call (.builtin id) args) Q E s:=by
 refine wpAny_call (codeAny_call_builtin hp hb ?_ hcl);have z:=wpAny_mono hc (Q':=λfin s'=>match fin with
   | .done f=>(match (Except.ok f:ab6) with| .ok (.ret v)=>Q v s'| .ok _=>False| .error e=>E e s')
   | .again c'=>c'.quiet=true/\codeAny (abJ prog w) A c' (λr s'=>match r with| .ok (.ret v)=>Q v s'| .ok _=>False| .error e=>E e s') s')
  (λfin s' y=>by obtain ⟨v,rfl,y⟩:=y;exact y) λU U x=>x
 unfold abV;rw [hk];unfold acN at ha;cases g:Manifest.signature? id with
 |none=>exact wpAny_pure z
 |some sig=>
  rw [g] at ha;exact wpAny_of_eq ha z
def notedBy(M:ab0)(A:Around)(env:Env)(E:Value->Shared->Prop):Value->Shared->Prop:=λx s'=>wpAny M A (ace x env) (λU s''=>E x s'') E s'
def cameBackBy(M:ab0)(A:Around)(env:Env)(E:Value->Shared->Prop):Value->Shared->Prop:=λx s'=>wpAny M A (do
  if (<-field x 1)== .none then unsupported "frame.own-activation:exception-without-traceback"
  adD x env.frame) (λU s''=>E x s'') E s'
theorem wpAny_noted{Q:α->Shared->Prop}(h:wpAny M A m Q (notedBy M A env E) s):wpAny M A (m.onRaise λx=>do ace x env;acs x) Q E s:=
 wpAny_onRaise (wpAny_mono h (λU U q=>q) λU U h=>sq h λU U h=>Kl (wpAny_theTreesLotGoes h))
theorem wpAny_notedAt{Q:α->Shared->Prop}(h:wpAny M A m Q (notedBy M A env E) s):wpAny M A (m.onRaise λx=>do ace x env;ab8 pos) Q E s:=
 wpAny_onRaise (wpAny_mono h (λU U q=>q) λU U h=>sq h λU U h=>wpAny_standAt h)
theorem wpAny_runOwn{Q:Flow->Shared->Prop}(hc:codeAny M (A.mark h) c (λr s'=>match r with| .ok f=>Q f s'| .error e=>cameBackBy M A env E e s') s)(hnb:autoParam (h≠some byPass) aa2._auto_3):wpAny M A (runOwn c env h) Q E s:=by
 exact wpAny_onRaise (wpAny_run hc hnb)
theorem wpAny_While{test body orelse pos}{Q:Flow->Shared->Prop}(h:codeAny M A (.whileLoop test body orelse env) (λr s'=>match r with| .ok f=>Q f s'| .error e=>cameBackBy M A env E e s') s):wpAny M A (exec (.While test body orelse pos) env) Q E s:=by
 rw [exec_While];exact sd (wpAny_runOwn h)
theorem wpAny_For{target iter body orelse pos}{Q:Flow->Shared->Prop}(h:wpAny M A (eval iter env) (λx s₁=>wpAny M A (adq x) (λit s₂=>codeAny M A (.forLoop target it body orelse env) (λr s'=>match r with| .ok f=>Q f s'| .error e=>cameBackBy M A env E e s') s₂) E s₁) E s)
  (hs:autoParam (∀x,acR iter env x=pure x) PySem.wpAny_For._auto_3):wpAny M A (exec (.For target iter body orelse pos) env) Q E s:=by
 rw [exec_For];exact sd (sq h λx U h=>wpAny_bind (wpAny_of_eq (hs x) (sd (sh h λU U h=>wpAny_runOwn h))))
theorem codeAny_block(h:wpAny (abJ prog w) A (acr stmts env) (λf s'=>R (.ok f) s') (notedBy (abJ prog w) A env λe s'=>R (.error e) s') s):codeAny (abJ prog w) A (.block stmts env) R s:=
 codeAny_of_tree (sq (m:=(acr stmts env).onRaise λx=>do ace x env;acs x) (f:=λf=>pure (aaQ f)) (wpAny_noted h) λU U h=>wpAny_pure h)
theorem codeAny_whileLoop{test body orelse}(I:Nat->Shared->Prop)
  (turn: ∀n s,I n s->wpAny (abJ prog w) A (acn test env (eval test env)) (λb s₂=>
    if b then wpAny (abJ prog w) A (acr body env) (λf s₃=>match f with
      | .next| .cont=> ∃m,m<n/\I m s₃
      | .brk=>R (.ok .next) s₃
      | .ret v=>R (.ok (.ret v)) s₃) (notedBy (abJ prog w) A env λe s'=>R (.error e) s') s₂
    else wpAny (abJ prog w) A (acr orelse env) (λf s₃=>R (.ok f) s₃) (notedBy (abJ prog w) A env λe s'=>R (.error e) s') s₂)
    (notedBy (abJ prog w) A env λe s'=>R (.error e) s') s)
  (n:Nat) (h:I n s):codeAny (abJ prog w) A (.whileLoop test body orelse env) R s:=
 codeAny_loop rfl I (λn s i=>wpAny_noted (m:=whileTurn test body orelse env) (by
  unfold whileTurn;refine sq (turn n s i) λb U h=>?_;induction b with
  |false=>exact sq h λU U h=>wpAny_pure h
  |true=>exact sq h λf U h=>by rcases f with _|_<;>first|exact wpAny_pure h|exact wpAny_pure ⟨rfl,h⟩)) n h
theorem codeAny_forLoop_any{target it body orelse}(I:Nat->Shared->Prop)
  (turn: ∀n s,I n s->wpAny (abJ prog w) A (acT it) (λr s₁=>match r with
   |none=>wpAny (abJ prog w) A (acr orelse env) (λf s₃=>R (.ok f) s₃) (notedBy (abJ prog w) A env λe s'=>R (.error e) s') s₁
   |some v=>wpAny (abJ prog w) A (acu target it v) (λU s₁'=>
     wpAny (abJ prog w) A (assign target env v) (λU s₂=>wpAny (abJ prog w) A (acr body env) (λf s₃=>match f with
      | .next| .cont=> ∃m,m<n/\I m s₃
      | .brk=>R (.ok .next) s₃
      | .ret v=>R (.ok (.ret v)) s₃) (notedBy (abJ prog w) A env λe s'=>R (.error e) s') s₂) (notedBy (abJ prog w) A env λe s'=>R (.error e) s') s₁') (notedBy (abJ prog w) A env λe s'=>R (.error e) s') s₁) (notedBy (abJ prog w) A env λe s'=>R (.error e) s') s)
  (n:Nat) (h:I n s):codeAny (abJ prog w) A (.forLoop target it body orelse env) R s:=
 codeAny_loop' rfl I (λn s i=>wpAny_noted (m:=forTurn target it body orelse env) (by
  unfold forTurn;refine sd (sq (wpAny_onRaise (wpAny_mono (turn n s i) (λU U h=>h) λU U h=>wpAny_standAt h)) λr U h=>?_);induction r with
  |none=>exact wpAny_pure (.inr ⟨rfl,codeAny_block h⟩)
  |some v=>
   exact sq h λU U h=>sq h λU U h=>sq h λf U h=>by rcases f with _|_<;>first|exact wpAny_pure h|exact wpAny_pure (.inl ⟨rfl,h⟩))) n h
theorem codeAny_func{body}(h:wpAny (abJ prog w) (A.deeper env) (acr body env) (λf s'=>R (.ok (.ret (match f with| .ret v=>v|_=>.none))) s') (λe s'=>wpAny (abJ prog w) (A.deeper env) (adN env e) (λU s''=>R (.error e) s'') (λe' s''=>R (.error e') s'') s') s):codeAny (abJ prog w) A (.func body env) R s:=
 codeAny_of_tree (show wpAny _ (A.deeper env) (do point;match <-(acr body env).onRaise (adN env) with| .ret v=>ret v|_=>ret .none) _ _ s from
  wpAny_bind (wpAny_point (sq (wpAny_onRaise h) λf U h=>by rcases f with _|_<;>exact wpAny_pure h)))
theorem kla_codeExpr(h:wpAny (abJ prog w) (A.deeper env) (eval e env) (λv s'=>R (.ok (.ret v)) s') (λe' s'=>wpAny (abJ prog w) (A.deeper env) (adN env e') (λU s''=>R (.error e') s'') (λe'' s''=>R (.error e'') s'') s') s):codeAny (abJ prog w) A (.expr e env) R s:=
 codeAny_of_tree (show wpAny _ (A.deeper env) (do point;ret (<-(eval e env).onRaise (adN env))) _ _ s from wpAny_bind (wpAny_point (sq (wpAny_onRaise h) λU U h=>wpAny_pure h)))
theorem zO(hroom:A.depth<ac9)(ho:s.heap.get? a=some o)(hd':o.data=.func fd)(hco:fd.scope.isCoroutine=false)(hgen:fd.scope.isGenerator=false)(hcd:s.heap.CodeRec fd.code fd.qualname)
  (h:wpAny (abJ prog w) A.in1 (ads fd args) (λbinds s₁=>wpAny (abJ prog w) A.in1 (acz fd.scope fd.globals fd.closure binds (fd.qualname++".<locals>.") (some a) fd.code none fd.builtins)
    (λenv s₂=>s₂.heap.NoLimit/\(match fd.body with| .stmts b=>codeAny (abJ prog w) A (.func b env) R s₂| .expr e=>codeAny (abJ prog w) A (.expr e env) R s₂)) (λe s'=>R (.error e) s') s₁) (λe s'=>R (.error e) s') s):codeAny (abJ prog w) A (.call (.ref a) args) R s:=by
 refine codeAny_of_tree (show wpAny _ A.in1 (callAny (.ref a) args) _ _ s from ?_);unfold callAny;refine wpAny_bind (wpAny_load ho ?_);refine ae λaA=>?_;obtain ⟨c,oc,vs,tq,hc,hoc,hdc,hq⟩:=hcd;refine aA ?_;rw [hc] at h;simp only [hd',callFunction,hco,hgen,hc];refine wpAny_bind (m:=PySem.field (.ref c) 1) (Kl (PySem.wpAny_field hoc hdc hq (wpAny_bind (wpAny_pure (sq h λU U h=>sq h λU U h=>wpAny_bind (Kl (PySem.wpAny_enterFrame h.1 hroom ?_)))))));have z:=h.2;revert z;cases fd.body with
 |stmts b=>exact λz=>wpAny_pure ⟨rfl,z⟩
 |expr e=>exact λz=>wpAny_pure ⟨rfl,z⟩
theorem codeAny_call_function(hroom:A.depth<ac9)(ho:s.heap.get? a=some o)(hd':o.data=.func fd)(hco:fd.scope.isCoroutine=false)(hgen:fd.scope.isGenerator=false)(hbody:fd.body=.stmts body)(hcd:s.heap.CodeRec fd.code fd.qualname)
  (h:wpAny (abJ prog w) A.in1 (ads fd args) (λbinds s₁=>wpAny (abJ prog w) A.in1 (acz fd.scope fd.globals fd.closure binds (fd.qualname++".<locals>.") (some a) fd.code none fd.builtins)
    (λenv s₂=>s₂.heap.NoLimit/\codeAny (abJ prog w) A (.func body env) R s₂) (λe s'=>R (.error e) s') s₁) (λe s'=>R (.error e) s') s):codeAny (abJ prog w) A (.call (.ref a) args) R s:=
 zO hroom ho hd' hco hgen hcd (wpAny_mono h (λU U h=>wpAny_mono h (λU U h=>by rw [hbody];exact h) λU U x=>x) λU U x=>x)
theorem kla_callFunE(hroom:A.depth<ac9)(ho:s.heap.get? a=some o)(hd':o.data=.func fd)(hco:fd.scope.isCoroutine=false)(hgen:fd.scope.isGenerator=false)(hbody:fd.body=.expr body)(hcd:s.heap.CodeRec fd.code fd.qualname)
  (h:wpAny (abJ prog w) A.in1 (ads fd args) (λbinds s₁=>wpAny (abJ prog w) A.in1 (acz fd.scope fd.globals fd.closure binds (fd.qualname++".<locals>.") (some a) fd.code none fd.builtins)
    (λenv s₂=>s₂.heap.NoLimit/\codeAny (abJ prog w) A (.expr body env) R s₂) (λe s'=>R (.error e) s') s₁) (λe s'=>R (.error e) s') s):codeAny (abJ prog w) A (.call (.ref a) args) R s:=
 zO hroom ho hd' hco hgen hcd (wpAny_mono h (λU U h=>wpAny_mono h (λU U h=>by rw [hbody];exact h) λU U x=>x) λU U x=>x)
theorem kla_eval(hdef:defaultsOf params env=([],[]))(h:wpAny M A (makeFunction "<lambda>" (env.qual++"<lambda>") params (.expr body) scope env [] [] [] pos pos.line) Q E s):wpAny M A (eval (.Lambda params body scope pos) env) Q E s:=by
 rw [arm_eval_Lambda,hdef];exact h
theorem wpAny_handleBy_nil{Q:Flow->Shared->Prop}(h:wpAny M A (FK "try.no-clause-matches" e env) Q E s):wpAny M A (adt e env []) Q E s:=by
 unfold adt;exact h
theorem wpAny_handleBy_cons{rest:List ExceptHandler}{Q:Flow->Shared->Prop}
  (h:codeAny M (A.mark (some e)) (.handlers e [.ExceptHandler (some t) none [] pos] env) (λr s₁=>match r with
   | .ok .brk=>codeAny M (A.mark (some e)) (.handlers e [.ExceptHandler none name body pos] env) (λr s₂=>match r with
     | .ok f=>(match name with
      |none=>Q f s₂
      |some n=>wpAny M A (do acW env n .none;acF env n pos) (λU s₃=>Q f s₃) E s₂)
     | .error x=>cameBackBy M A env E x s₂) s₁
   | .ok _=>wpAny M A (adt e env rest) Q E s₁
   | .error x=>cameBackBy M A env E x s₁) s) (hnb:e≠byPass):wpAny M A (adt e env (.ExceptHandler (some t) name body pos::rest)) Q E s:=by
 have nb:(some e:Option Value)≠some byPass:=λx=>hnb (ag x)
 (rewrite [adt];try with_reducible rfl)
 refine wpAny_bind (wpAny_holding (wpAny_runOwn (codeAny_mono h λr s₁ h=>?_) nb));induction r with
 |error _=>exact h
 |ok f=>
  induction f with
  |brk=>
   refine wpAny_bind (wpAny_pure (wpAny_bind (wpAny_holding (wpAny_runOwn (codeAny_mono h λr s₂ h=>?_) nb))));induction r with
   |error _=>exact h
   |ok f=>
    induction name with
    |none=>exact wpAny_pure h
    |some n=>exact sh h λU U h=>wpAny_pure h
  |_=>exact wpAny_bind (wpAny_pure h)
theorem codeAny_handlers_test(h:wpAny (abJ prog w) A (eval t env) (λc s₁=>wpAny (abJ prog w) A (aec e c) (λb s₂=>R (.ok (if b then .brk else .next)) s₂) (notedBy (abJ prog w) A env λx s₂=>R (.error x) s₂) s₁) (notedBy (abJ prog w) A env λx s₁=>R (.error x) s₁) s):
  codeAny (abJ prog w) A (.handlers e [.ExceptHandler (some t) none [] pos] env) R s:=by
 refine codeAny_of_tree (sq (m:=(ac5 e env [.ExceptHandler (some t) none [] pos]).onRaise λx=>do ace x env;acs x) (f:=λf=>pure (aaQ f)) (P:=λf s'=>R (.ok f) s') (wpAny_noted ?_) λU U h=>wpAny_pure h);unfold ac5;exact sd (sq h λU U h=>sd (sq h λU U h=>wpAny_pure h))
theorem wpAny_Try_except{Q:Flow->Shared->Prop}
  (h:wpAny (abJ prog w) A (acr body env) (λf s₁=>match f with| .next=>wpAny (abJ prog w) A (acr orelse env) Q E s₁|f=>Q f s₁)
   (λe s₁=>wpAny (abJ prog w) A (ace e env) (λU s₂=>wpAny (abJ prog w) A (adD e none) (λU s₃=>wpAny (abJ prog w) A (adt e env (h₀::hs)) Q E s₃) E s₂) E s₁) s):wpAny (abJ prog w) A (exec (.Try body (h₀::hs) orelse [] pos) env) Q E s:=by
 rw [arm_exec_Try];unfold tryStmt;exact sd (wpAny_bind (wpAny_attempt (wpAny_mono h (λf U h=>by rcases f with _|_<;>first|exact h|exact wpAny_pure h) λU U h=>sq h λU U h=>sq h λU U h=>h)))
theorem pairTrees_cons_walk{Q:List (Value×Value)->Shared->Prop}
  (h:wpAny (abJ prog w) A (eval k env) (λkv s₁=>wpAny (abJ prog w) A (eval v env) (λvv s₂=>wpAny (abJ prog w) A (acY (acZ ks vs env pos)) (λr s₃=>Q ((kv,vv)::r) s₃) E s₂) E s₁) E s):wpAny (abJ prog w) A (acY (acZ (some k::ks) (v::vs) env pos)) Q E s:=by
 have e:acZ (some k::ks) (v::vs) env pos=(eval k env,do let x <-eval v env;ab8 pos;pure x)::acZ ks vs env pos:=rfl
 (rewrite [e,acY];try with_reducible rfl)
 exact sq h λU U h=>sh (sq h λU U h=>sd (wpAny_pure h)) λU U h=>sh h λU U h=>wpAny_pure h
end
section
variable{α β:Type}{M:ab0}{A:Around}{E:Value->Shared->Prop}{s:Shared}{c:Code}{R:ab6->Shared->Prop}{env:Env}{prog:Program}{w:abR}
def compPost(M:ab0)(A:Around)(E:Value->Shared->Prop)(use:Option (Value->Sem Unit))(Q:Value->Shared->Prop)(acc:Value)(C:Addr)(r:ab6)(s':Shared):Prop:=
 match r with
 | .ok _=>(match use with
  |none=> ∃m,s'.heap.Ns C m/\ ∀h',gd C s'.heap h'->Q acc {s' with heap:=h'}
  |some u=>wpAny M A (u acc) (λU s''=> ∃m,s''.heap.Ns C m/\ ∀h',gd C s''.heap h'->Q .none {s'' with heap:=h'}) E s')
 | .error x=> ∃m,s'.heap.Ns C m/\ ∀h',gd C s'.heap h'-> ∀cenv:Env,cenv.locals=C->wpAny M A (FK "comprehension.variables-let-go" x cenv:Sem Value) (λU U=>False) E {s' with heap:=h'}
theorem HP{c:Prop}[Decidable c]{k:PUnit->Sem α}{Q:α->Shared->Prop}(h:wpAny M A (k ()) Q E s):wpAny M A (if c then (ab8 pos>>=k) else k ()) Q E s:=by
 by_cases x:c
 ·rw [if_pos x];exact sd h
 ·rw [if_neg x];exact h
theorem wpAny_comprehension_free
  (hcl:clausesOf e=g::gs) (hs: ∀x,acR g.iter env x=pure x) (hclos:aed scope env=pure cl) (hkind:scope.kind=.function) (hnames: ∀x∈scope.names,x.2=.local->scope.names.lookup x.1=some .local)
  (h:wpAny M A first (λx s₁=>wpAny M A (adq x) (λit s₂=>wpAny M A newAcc (λacc s₃=>wpAny M A (acz scope env.globals cl [] env.qual none .none (some env)) (λcenv s₄=>
    codeAny M A (.compStart e 0 it acc {cenv with scope:=acA scope env}) (compPost M A E use Q acc cenv.locals) s₄) E s₃) E s₂) E s₁) E s):wpAny M A (adY e scope env pos newAcc false first use) Q E s:=by
 unfold adY;rw [hclos,hcl];refine sq h λx U h=>sd (wpAny_bind (wpAny_of_eq (hs x) (sh h λit U h=>HP (sq h λacc U h=>wpAny_bind (wpAny_pure (sq h λcenv s₄ h=>?_))))));dsimp only;have hv: ∀x∈scope.names.filter λx=>(x.2== .local||x.2== .cell)&&x.1 != (".0":Str),x.2=.local->Env.kindOf {cenv with scope:=acA scope env} x.1=some .local:=λx hx=>λhl=>lookup_relabel_local (hnames x (FR.mp hx).1 hl);refine wpAny_holding (wpAny_bind (wpAny_attempt (wpAny_holding (wpAny_run (codeAny_mono h λr s' hr=>?_)))));induction r with
 |error x=>exact hr.elim λm hr=>wpAny_bind (wpAny_holding (Kl (adu (cenv:={cenv with scope:=acA scope env}) hkind _ s' m (λx hx=>hv x (NA.mp hx)) hr.1 λh' U U hs'=>wpAny_mono (hr.2 h' hs' _ rfl) (λU U f=>f.elim) λU U y=>y)))
 |ok f=>
  induction use with
  |none=>exact hr.elim λm hr=>sh (P:=λU s''=>Q acc s'') (Kl (adu (cenv:={cenv with scope:=acA scope env}) hkind _ s' m (λx hx=>hv x (NA.mp hx)) hr.1 λh' U U hs'=>hr.2 h' hs')) λU U h=>wpAny_pure h
  |some u=>exact wpAny_bind (wpAny_rule (sh hr λU s'' hr=>hr.elim λm hr=>wpAny_bind (Kl (adu (cenv:={cenv with scope:=acA scope env}) hkind _ s'' m (λx hx=>hv x (NA.mp ((w0.mp hx).elim List.mem_of_mem_drop U2))) hr.1 λh' U U hs'=>wpAny_pure (hr.2 h' hs')))))
theorem codeAny_compStart_list{elt target iter ifs rest scope pos it acc}
  (h0:codeAny (abJ prog w) A (.compLoop (.ListComp elt (⟨target,iter,ifs,0⟩::rest) scope pos) 0 it acc env) R s)
  (h:wpAny (abJ prog w) A (adq it) (λit' s'=>codeAny (abJ prog w) A (.compLoop (.ListComp elt (⟨target,iter,ifs,0⟩::rest) scope pos) 0 it' acc env) R s') (notedBy (abJ prog w) A env λx s'=>R (.error x) s') s):
  codeAny (abJ prog w) A (.compStart (.ListComp elt (⟨target,iter,ifs,0⟩::rest) scope pos) 0 it acc env) R s:=by
 refine codeAny_of_tree (show wpAny _ _ ((compStart (.ListComp elt (⟨target,iter,ifs,0⟩::rest) scope pos) 0 it acc env).onRaise (λx=>do ace x env;ab8 theWindowsPlace)) _ _ s from wpAny_notedAt ?_);unfold compStart;refine wpAny_bind (m:=ask) (Kl (PySem.wpAny_askSetting ?_));refine wpAny_ite ?_;split
 ·exact wpAny_pure ⟨rfl,h0⟩
 ·exact wpAny_bind (wpAny_rule (sd (sq h λU U h=>wpAny_pure ⟨rfl,h⟩)))
theorem pairs_len{Q:List (Value×Value)->Shared->Prop}(h:wpAny (abJ prog w) A (acY pairs) Q E s):wpAny (abJ prog w) A (acY pairs) (λvs s'=>vs.length=pairs.length/\Q vs s') E s:=λΓ p i c=>wp_evalPairs_len _ Γ pairs _ _ p s (h Γ p i c)
theorem wpAny_Dict_walk[DecidableEq T]{knd:PySem.KeyKind prog w T}(hall:keys.all (λU=>U.isSome)=true)(hl:keys.length=values.length)(h0:keys≠[])(hlen:keys.length<=15)
  (h:wpAny (abJ prog w) A (acY (acZ keys values env pos)) (λvs s₁=> ∃kvs,Carries knd vs kvs/\s₁.heap.DictOf knd s.heap.objs.size []/\ ∀h',h'.DictOf knd s.heap.objs.size (merged [] kvs)->gd s.heap.objs.size s₁.heap h'->Q (.ref s.heap.objs.size) {s₁ with heap:=h',toks:=s₁.toks+vs.length}) E {s with heap:=s.heap.push {cls:=.type "dict",data:=.dict #[]}}):
  wpAny (abJ prog w) A (eval (.Dict keys values pos) env) Q E s:=by
 have hn:=pairTrees_length keys values env pos hall hl;have hne:acZ keys values env pos≠[]:=λe=>h0 (List.length_eq_zero_iff.mp (by rw [<-hn,e];rfl));rw [arm_eval_Dict,zip_pairTrees keys values env pos hall hl,dictDisplay_pairs _ hne (by lia)];refine sd (wpAny_bind (m:=subDict _) ?_);unfold subDict;refine wpAny_bind (Kl (PySem.wpAny_alloc ?_));rw [if_pos (by lia)];refine wpAny_bind (wpAny_holding (sq (pairs_len h) λvs s₁ ⟨hvl,kvs,hc,hm,hq⟩=>wpAny_holding (wpAny_bind (Kl (wpAny_storeAll (knd:=knd) vs kvs [] s₁ _ hc hm ?_ λh' a b=>wpAny_pure (wpAny_pure (wpAny_pure (hq h' a b))))))));have e:=hc.length;rw [aea,w8];lia
end
section
variable{prog:Program}{w:abR}{A:Around}{h:Heap}{g:Array GenState}{d:Drawn}{t:Nat}{os:acy}
variable{nm q:Str}{C N:Addr}{bs:List Value}{sn:List Str}{sub:List Value}{col:Option Bool}{dd:Option Addr}{k0 k1 k2 k3 k5:Option Value}{newId:String}
theorem Bq(F:ObjNewFacts newId){Q:Fin->Shared->Prop}
  (hC:h.get? C=some (adI nm q C N bs [.type "object"] true sn sub false col dd k0 k1 k2 k3 k5 newId)) (hn:h.Ns N mN) (hi:mN "__init__"=some (.ref fI)) (hfI:h.get? fI=some oI) (hfc:oI.cls=.type "function")
  (hq: ∀h' x dx,abf h h' x dx C->wpAny (abJ prog w) A (call (.ref fI) (.ref x::rest)) (λr s'=>r=.none/\Q (.done (.ret (.ref x))) s') E ⟨h',g,d,t,os⟩):
  wpAny (abJ prog w) A (Builtin.«type.__call__» ⟨.ref C::rest,[]⟩) Q E ⟨h,g,d,t,os⟩:=by
 have MF:mroOf (.type "object")=pure [.type "object"]:=by kernel_rfl
 have hlk:ab5 (.type "object") "__init__"=pure (some (.builtin "object.__init__")):=by rw [abT,abO];kernel_rfl
 have hne:(dT C==FV "type")=false:=rfl;have vd: ∀{b o},h.get? b=some o->((h.push {cls:=.type "dict",data:=.dict #[]}).push {cls:=.ref C,dict:=some h.objs.size,data:=.plain}).get? b=some o:=λe=>cn _ (cn _ e);have hn2:((h.push {cls:=.type "dict",data:=.dict #[]}).push {cls:=.ref C,dict:=some h.objs.size,data:=.plain}).Ns N mN:=let ⟨o,es,ep,e,r⟩:=hn;⟨o,es,ep,vd e,r⟩;have hget:((h.push {cls:=.type "dict",data:=.dict #[]}).push {cls:=.ref C,dict:=some h.objs.size,data:=.plain}).get? (h.objs.size+1)=some {cls:=.ref C,dict:=some h.objs.size,data:=.plain}:=y8 (ip ..).symm rfl;have hgd:((h.push {cls:=.type "dict",data:=.dict #[]}).push {cls:=.ref C,dict:=some h.objs.size,data:=.plain}).get? h.objs.size=some {cls:=.type "dict",data:=.dict #[]}:=cn _ (y8 rfl rfl);have hcC:(dT C::[FV "object"]).contains (.ref C)=true:=by simp
 unfold Builtin.«type.__call__»;dsimp only;rw [if_neg (by rw [hne];exact hH)];refine wpAny_bind (m:=mroOf (.ref C)) (Kl ?_)
 repeat (first|with_reducible refine abP hC ?_|wp_step)
 refine wpAny_bind (Kl (adv hC ?_));refine wpAny_bind (wpAny_pure ?_);refine wpAny_bind (wpAny_holding (Kl (vu (Fu (ta _ F.quiet) (wpAny_check_obj_new F hC (codeAny_obj_new F hC hn hi ?_))))));refine wpAny_bind (m:=acG _ _) (Kl ?_);unfold acG
 repeat (first|with_reducible refine abP hget ?_|(with_reducible refine abX (vd hC) ?_;rw [hcC])|wp_step)
 rw [if_neg (by decide)];refine wpAny_bind (wpAny_holding ?_);unfold ac4;refine wpAny_bind (Kl ?_)
 repeat (first|with_reducible refine abP hget ?_|wp_step)
 refine wpAny_typeLookup_exc (vd hC) hn2 MF hlk ?_;rw [hi];refine wpAny_holding (wpAny_bind ?_);refine Kl (bc (PySem.wpAny_typeOf (T:="function") ⟨_,vd hfI,hfc⟩ ?_));rw [if_pos (by decide)];refine cp (sq (hq _ (h.objs.size+1) h.objs.size ⟨λb o=>vd,lb (tI _),lb (eb _),
  ⟨_,hget,rfl,λc=>by simp,.inr ⟨h.objs.size,rfl,ll (km _),aax ⟨_, #[],_,hgd,rfl,λe he=>absurd he (by simp),λU=>rfl⟩,⟨_,hgd,rfl,rfl⟩⟩⟩,
  λo ho=>by obtain rfl:=ag (hget.symm.trans ho);rfl,by simp only [ip];lia⟩) λr s' hr=>?_)
 obtain ⟨rfl,hr⟩:=hr;exact wpAny_pure (wpAny_pure hr)
theorem codeAny_call_obj_init(F:ObjNewFacts newId)
  (hC:h.get? C=some (adI nm q C N bs [.type "object"] true sn sub false col dd k0 k1 k2 k3 k5 newId)) (hn:h.Ns N mN) (hi:mN "__init__"=some (.ref fI)) (hfI:h.get? fI=some oI) (hfc:oI.cls=.type "function")
  (hq: ∀h' x dx,abf h h' x dx C->wpAny (abJ prog w) (A.under (.builtin "type.__call__" ⟨.ref C::rest,[]⟩)) (call (.ref fI) (.ref x::rest)) (λr s'=>r=.none/\R (.ok (.ret (.ref x))) s') (λe s'=>R (.error e) s') ⟨h',g,d,t,os⟩):
  codeAny (abJ prog w) A (.call (.ref C) ⟨rest,[]⟩) R ⟨h,g,d,t,os⟩:=by
 have f1:=tc_lookup;have f2:=tc_bind (.ref C);have hT:(⟨h,g,d,t,os⟩:Shared).TypeIs (.ref C) "type":=⟨_,hC,rfl⟩;refine codeAny_mono (R:=λr s'=>match r with| .ok (.ret v)=>R (.ok (.ret v)) s'| .ok _=>False| .error e=>R (.error e) s') (codeAny_of_tree (show wpAny _ _ (callAny (.ref C) _) _ _ _ from Kl ?_)) (λr s' hr=>?_)
 ·repeat (any_goals (first|assumption|with_reducible refine abP hC ?_|wp_step))
  exact ⟨rfl,codeAny_call_builtin_at (ta _ (by decide+kernel)) entry_typeCall (Kl (adl hC (Bq F hC hn hi hfI hfc λh' x dx hm=>hq h' x dx hm)))⟩
 ·match r,hr with
  | .ok (.ret v),hr=>exact hr
  | .error e,hr=>exact hr
end
section
variable{α β:Type}{M:ab0}{A:Around}{E:Value->Shared->Prop}{s:Shared}{Q:β->Shared->Prop}
theorem rm(h:ax M A (f a) Q E s):ax M A (pure a>>=f) Q E s:=bc (cp h)
theorem Df(e:t=pure a)(h:ax M A (f a) Q E s):ax M A (t>>=f) Q E s:=bc (y7 e h)
theorem zP(h:ax M A (f ()) Q E s):ax M A (rule tag>>=f) Q E s:=bc (aaO h)
theorem MG(h:ax M A (f ()) Q E s):ax M A (ab8 p>>=f) Q E s:=bc (Y1 h)
theorem MH(h:ax M A (f ()) Q E s):ax M A (point>>=f) Q E s:=bc (y6 h)
theorem dj(h1:s.heap.get? a=some o)(h2:o.data=.fields vs)(h3:vs[i]?=some x)(h:ax M A (f x) Q E s):ax M A (field (.ref a) i>>=f) Q E s:=bc (wpAny_field h1 h2 h3 h)
theorem sL(h1:s.heap.get? a=some o)(h2:o.data=.seq items n)(h:ax M A (f (some items)) Q E s):ax M A (ac0 (.ref a)>>=f) Q E s:=bc (adO h1 h2 h)
theorem oX(h1:s.TypeIs v T)(h2:ab5 (.type T) name=pure r)(h:ax M A (f r) Q E s):ax M A (specialOf v name>>=f) Q E s:=bc (adC h1 h2 h)
theorem ve(h1:s.heap.get? a=some o)(h:ax M A (f o) Q E s):ax M A (load a>>=f) Q E s:=bc (aaP h1 h)
theorem zQ(h1:s.TypeIs v T)(h:ax M A (f (.type T)) Q E s):ax M A (ad0 v>>=f) Q E s:=bc (wpAny_typeOf h1 h)
theorem Ra(h:ax M A (f ()) Q E s):ax M A (letGo r k>>=f) Q E s:=bc (aeb h)
theorem K9(h:ax M A m (λa s'=>ax M A (f a) Q E s') E s):ax M A (ab7 vs m>>=f) Q E s:=bc (wa h)
theorem pureO(h:wpAny M A (f a) Q E s):wpAny M A (pure a>>=f) Q E s:=wpAny_bind (wpAny_pure h)
theorem xD(e:t=pure a)(h:wpAny M A (f a) Q E s):wpAny M A (t>>=f) Q E s:=wpAny_bind (wpAny_of_eq e h)
theorem rq(h:wpAny M A (f ()) Q E s):wpAny M A (rule tag>>=f) Q E s:=wpAny_bind (wpAny_rule h)
theorem cX(h:wpAny M A (f ()) Q E s):wpAny M A (ab8 p>>=f) Q E s:=wpAny_bind (wpAny_standAt h)
theorem WG(h:wpAny M A (f ()) Q E s):wpAny M A (point>>=f) Q E s:=wpAny_bind (wpAny_point h)
theorem fm(h:wpAny M A m (λa s'=>wpAny M A (f a) Q E s') E s):wpAny M A (ab7 vs m>>=f) Q E s:=wpAny_bind (wpAny_holding h)
end
end MP
end Mine.Lake
end
section
set_option backward.match.sparseCases false
namespace Mine.Lake
namespace MP
inductive V where
 |none
 |bool (b:Bool)
 |int (i:Int)
 |str (s:List Nat)
 |bytes (b:List Nat)
 |tup (vs:List V)
 |list (vs:List V)
 |ref (i:Nat)
 |inst (c:Nat) (fs:List (Nat×V))
 |ou (k:Nat) (caps:List V)
 |exc (k:Nat) (what:V)
inductive cy where
 |list (vs:List V)
 |dict (kvs:List (List Nat×V))
 |inst (c:Nat) (fs:List (Nat×V))
 |jS (b:List Nat)
set_option genCtorIdx true in
inductive Slot where
 |empty
 |val (v:V)
 |own (o:cy)
 |fix (v:V)
inductive R where
 |val (v:V)
 |own (o:cy)
 |slot (i:Nat)
noncomputable abbrev Env:=List Slot
noncomputable abbrev Hp:=List cy
inductive mO where
 |ok (r:R) (H:Hp)
 |exc (k:Nat) (w:V) (H:Hp)
 |bad
set_option genCtorIdx true in
inductive Out(α:Type)where
 |ok (a:α) (ρ:Env) (H:Hp)
 |exc (k:Nat) (w:V) (ρ:Env) (H:Hp)
 |bad
 |ask (n k:Nat) (vs:List V) (H:Hp) (f:mO->Out α)
set_option genCtorIdx true in
inductive Res where
 |ok (r:R) (H:Hp)
 |exc (k:Nat) (w:V) (H:Hp)
 |bad
 |ask (n k:Nat) (vs:List V) (H:Hp) (f:mO->Res)
abbrev CF:=Nat->List V->Hp->Res
abbrev M(α:Type):=CF->Env->Hp->Out α
def Out.fold{α β:Type}(ok:α->Env->Hp->Out β)(exc:Nat->V->Env->Hp->Out β)(x:Out α):Out β:=Out.rec (motive:=λU=>Out β) ok exc .bad (λn k vs H U ih=>.ask n k vs H ih) x
def Out.bind{α β:Type}(x:Out α)(f:α->Env->Hp->Out β):Out β:=x.fold f .exc
def Out.res{α:Type}(ok:α->Env->Hp->Res)(exc:Nat->V->Env->Hp->Res)(x:Out α):Res:=Out.rec (motive:=λU=>Res) ok exc .bad (λn k vs H U ih=>.ask n k vs H ih) x
noncomputable def ee{α:Type}(a:α):M α:=λU ρ H=>.ok a ρ H
noncomputable def cF{α:Type}:M α:=λU U U=>.bad
def aF{α β:Type}(m:M α)(f:α->M β):M β:=λcf ρ H=>(m cf ρ H).bind λa ρ' H'=>f a cf ρ' H'
noncomputable def oB{ι α:Type}(x:Option ι)(f:ι->Out α):Out α:=match x with|some i=>f i| .none=>.bad
noncomputable def bb{ι α:Type}(x:Option ι)(f:ι->Option α):Option α:=match x with|some i=>f i| .none=>.none
noncomputable def oo{ι α:Type}(x:Option ι)(f:ι->Option α)(r:Option α):Option α:=match x with|some i=>f i| .none=>r
noncomputable def gg{α:Type}(b:Bool)(x:Option α):Option α:=cond b x .none
noncomputable def bZ{α:Type}(b:Bool)(x:Out α):Out α:=cond b x .bad
noncomputable def band(a b:Bool):Bool:=cond a b false
noncomputable def bP:List Nat->List Nat->Bool
 |[],[]=>true
 |a::x,b::y=>cond (bo a b) (bP x y) false
 |_,_=>false
noncomputable def bX{α:Type}(k:List Nat):List (List Nat×α)->Option α
 |[]=>.none
 |a::r=>cond (bP k a.1) (some a.2) (bX k r)
noncomputable def nY{α:Type}(k:List Nat)(v:α):List (List Nat×α)->List (List Nat×α)
 |[]=>[(k,v)]
 |a::r=>cond (bP k a.1) ((a.1,v)::r) (a::nY k v r)
noncomputable def i9(k:Nat):List (Nat×V)->Option V
 |[]=>.none
 |a::r=>cond (bo k a.1) (some a.2) (i9 k r)
noncomputable def lC(k:Nat)(v:V):List (Nat×V)->List (Nat×V)
 |[]=>[(k,v)]
 |a::r=>cond (bo k a.1) ((a.1,v)::r) (a::lC k v r)
noncomputable def aU{α:Type}:List α->Nat->Option α
 |[],_=>.none
 |a::r,n=>match n with|0=>some a|n+1=>aU r n
noncomputable def put{α:Type}:List α->Nat->α->List α
 |[],_,_=>[]
 |a::r,n,x=>match n with|0=>x::r|n+1=>a::put r n x
noncomputable def aT(a b:Nat):Bool:=gp a b
def bf(n:Nat):Bool:=aT n (2^23)
def bh(ρ:Env)(i:Nat):Slot:=match aU ρ i with|some x=>x| .none=>.empty
noncomputable def asNat:Int->Option Nat| .ofNat n=>some n|_=>.none
structure D where
 n:Option Bool:=.none
 b:Option Bool:=.none
 i:Option Int:=.none
 s:Option (List Nat):=.none
 y:Option (List Nat):=.none
 t:Option (List V):=.none
 l:Option (List V):=.none
 d:Option (List (List Nat×V)):=.none
 o:Option (Nat×List (Nat×V)):=.none
 a:Option (List Nat):=.none
 x:Option V:=.none
noncomputable def Br:cy->D
 | .list vs=>{n:=some false,l:=some vs}
 | .dict k=>{n:=some false,d:=some k}
 | .inst c fs=>{n:=some false,o:=some (c,fs)}
 | .jS b=>{n:=some false,a:=some b}
def sM(v:V)(H:Hp):D:=match v with
 | .none=>{n:=some true}
 | .bool b=>{n:=some false,b:=some b}
 | .int i=>{n:=some false,i:=some i}
 | .str s=>{n:=some false,s:=some s}
 | .bytes b=>{n:=some false,y:=some b}
 | .tup vs=>{n:=some false,t:=some vs}
 | .list vs=>{n:=some false,l:=some vs}
 | .ref a=>(match aU H a with|some o=>Br o| .none=>{n:=some false})
 | .inst c fs=>{n:=some false,o:=some (c,fs)}
 | .ou _ _=>{n:=some false}
 | .exc _ w=>{n:=some false,x:=some w}
def den(r:R)(ρ:Env)(H:Hp):D:=match r with
 | .val v=>sM v H
 | .own o=>Br o
 | .slot i=>match bh ρ i with
  | .empty=>{}
  | .val v=>sM v H
  | .fix v=>sM v H
  | .own o=>Br o
def D.it(d:D):Option (List V):=oo d.l some d.t
def xo{β:Type}(f:D->Option β)(m:M R):M β:=aF m λa U ρ H=>oB (f (den a ρ H)) λv=>.ok v ρ H
def Vd{β:Type}(f:D->D->Option β)(l r:M R):M β:=aF l λa=>aF r λb U ρ H=>oB (f (den a ρ H) (den b ρ H)) λv=>.ok v ρ H
noncomputable def Dh:cy->Bool| .dict _=>true| .jS _=>true|_=>false
noncomputable def HQ:cy->V
 | .list vs=>.list vs
 | .inst c fs=>.inst c fs
 |_=>.none
noncomputable def xE(o:cy)(ρ:Env)(H:Hp):Out V:=.ok (.ref H.length) ρ (H++[o])
def Rb(o:cy)(ρ:Env)(H:Hp):Out V:=cond (Dh o) (xE o ρ H) (.ok (HQ o) ρ H)
def HR(i:Nat)(s:Slot)(ρ:Env)(H:Hp):Out V:=match s with
 | .val v=>.ok v ρ H
 | .fix v=>.ok v ρ H
 | .own o=>cond (Dh o) .bad (.ok (HQ o) (put ρ i (.val (HQ o))) H)
 | .empty=>.bad
def qM(r:R):M V:=λU ρ H=>match r with
 | .val v=>.ok v ρ H
 | .own o=>Rb o ρ H
 | .slot i=>HR i (bh ρ i) ρ H
noncomputable def vf:Slot->Option V
 | .val v=>some v
 | .fix v=>some v
 |_=>.none
def plain(r:R)(ρ:Env):Option V:=match r with
 | .val v=>some v
 | .own _=>.none
 | .slot i=>vf (bh ρ i)
def fE(m:M R):M V:=aF m λr U ρ H=>oB (plain r ρ) λv=>.ok v ρ H
def oY(m:M R):M V:=aF m qM
noncomputable def sN(v:V):M R:=ee (.val v)
def aa(i:Nat):M R:=λU ρ H=>match bh ρ i with
 | .empty=>.bad
 | .val v=>.ok (.val v) ρ H
 | .fix v=>.ok (.val v) ρ H
 | .own _=>.ok (.slot i) ρ H
noncomputable def cO(v:V):M R:=sN v
noncomputable def ak(i:Int):M R:=sN (.int i)
noncomputable def aq(s:List Nat):M R:=sN (.str s)
noncomputable def gD(s:List Nat):M R:=sN (.bytes s)
noncomputable def bF:M R:=sN .none
noncomputable def cu(b:Bool):M R:=sN (.bool b)
noncomputable def ja:List (M R)->M (List V)
 |[]=>ee []
 |m::r=>aF (oY m) λv=>aF (ja r) λvs=>ee (v::vs)
def aD(es:List (M R)):M R:=aF (ja es) λvs U ρ H=>bZ (bf vs.length) (.ok (.val (.tup vs)) ρ H)
def eList(es:List (M R)):M R:=aF (ja es) λvs U ρ H=>bZ (bf vs.length) (.ok (.own (.list vs)) ρ H)
def sO(es:List (M R)):M R:=aF (ja es) λvs U ρ H=>bZ (bf vs.length) (.ok (.val (.ref H.length)) ρ (H++[.list vs]))
noncomputable def distinct:List (List Nat)->Bool
 |[]=>true
 |k::r=>cond (r.any (bP k)) false (distinct r)
noncomputable def vg{α:Type}:List (List Nat)->List α->List (List Nat×α)->List (List Nat×α)
 |[],_,acc=>acc
 |k::r,l,acc=>match l with
  |[]=>acc
  |v::l=>vg r l (nY k v acc)
def gJ(ks:List (List Nat))(es:List (M R)):M R:=aF (ja es) λvs U ρ H=>.ok (.own (.dict (vg ks vs []))) ρ H
set_option genCtorIdx true in
inductive Op where|add|sub|mul|fdiv|mod|pow
noncomputable def isAdd:Op->Bool| .add=>true|_=>false
noncomputable def isMul:Op->Bool| .mul=>true|_=>false
def small(i:Int):Bool:=aT i.natAbs (2^64)
def lD(a b:Int):Bool:=cond (small b) true (cond (small a) true (aT (a.natAbs.log2+b.natAbs.log2) (2^26)))
def jZ(b:Int):Bool:=band (aT b.natAbs (2^8000)) (cond (decide (b=0)) false true)
def rt(a b:Int):Bool:=band (decide (0<=b)) (band (decide (2<=a)) (band (aT b.natAbs (2^20)) (aT a.natAbs (2^60))))
def intOp(op:Op)(a b:Int):Option Int:=match op with
 | .add=>some (a+b)
 | .sub=>some (a-b)
 | .mul=>gg (lD a b) (some (a*b))
 | .fdiv=>gg (jZ b) (some (ib a b))
 | .mod=>gg (jZ b) (some (rx a b))
 | .pow=>gg (rt a b) (some (a^b.toNat))
noncomputable def repl{α:Type}:Nat->List α->List α
 |0,_=>[]
 |n+1,x=>x++repl n x
def Di(op:Op)(d e:D):Option R:=
 oo d.i (λi=>bb e.i λj=>bb (intOp op i j) λz=>some (.val (.int z)))<|
 oo d.s (λp=>bb e.s λq=>gg (isAdd op) (gg (bf (p.length+q.length)) (some (.val (.str (p++q))))))<|
 oo d.y (λp=>bb e.i λi=>bb (asNat i) λn=>gg (isMul op) (gg (band (aT p.length 17) (band (aT 0 p.length) (aT n 1048577))) (some (.val (.bytes (repl n p))))))<|
 bb d.l λx=>bb e.l λy=>gg (isAdd op) (gg (bf (x.length+y.length)) (some (.own (.list (x++y)))))
def biL:List (Int->Int->Option V):=[λa b=>gg (lD a b) (some (.int (a*b))),λa b=>gg (jZ b) (some (.int (ib a b))),λa b=>gg (jZ b) (some (.int (rx a b))),λa b=>gg (rt a b) (some (.int (a^b.toNat))),
 λa b=>some (.bool (decide (a=b))),λa b=>some (.bool (cond (decide (a=b)) false true)),λa b=>some (.bool (decide (a<b))),λa b=>some (.bool (decide (a<=b))),λa b=>some (.bool (decide (b<a))),λa b=>some (.bool (decide (b<=a)))]
def Rc(o:Nat)(a b:Int):Option V:=bb (aU biL o) λf=>f a b
noncomputable def ru:V->Option Int| .int i=>some i|_=>.none
noncomputable def rB{ι:Type}(x:Option ι)(f:ι->Res):Res:=match x with|some i=>f i| .none=>.bad
noncomputable def Dj:List V->Nat->V
 |[],_=>.none
 |v::r,n=>match n with|0=>v|n+1=>Dj r n
noncomputable def octets:List V->Option (List Nat)
 |[]=>some []
 |v::r=>bb (ru v) λi=>bb (asNat i) λn=>gg (aT n 256) (bb (octets r) λl=>some (n::l))
noncomputable def Za:V->Option (List V)| .list l=>some l|_=>.none
noncomputable def ooR{ι:Type}(x:Option ι)(f:ι->Res)(r:Res):Res:=match x with|some i=>f i| .none=>r
def oZ(l:List V):Option R:=bb (octets l) λb=>gg (bf l.length) (some (.val (.bytes b)))
def La(o:Nat)(vs:List V)(H:Hp):Res:=ooR (Za (Dj vs 0)) (λl=>rB (oZ l) λr=>.ok r H)<|rB (ru (Dj vs 0)) λa=>rB (ru (Dj vs 1)) λb=>rB (Rc o a b) λv=>.ok (.val v) H
def gr(x:Res)(ρ:Env):Out R:=Res.rec (motive:=λU=>Out R) (λr H=>.ok r ρ H) (λk w H=>.exc k w ρ H) .bad (λn k vs H U ih=>.ask n k vs H ih) x
def vh(o:Nat)(i j:Int)(cf:CF)(ρ:Env)(H:Hp):Out R:=gr (cf (1000+o) [.int i,.int j] H) ρ
noncomputable def Zb:Op->Option Nat| .add=>.none| .sub=>.none| .mul=>some 0| .fdiv=>some 1| .mod=>some 2| .pow=>some 3
noncomputable def Hi{ι α:Type}(x:Option ι)(f:ι->Out α)(r:Out α):Out α:=match x with|some i=>f i| .none=>r
def MI(op:Op)(d e:D)(cf:CF)(ρ:Env)(H:Hp):Out R:=Hi (Zb op) (λo=>Hi d.i (λi=>oB e.i λj=>vh o i j cf ρ H) (oB (Di op d e) λv=>.ok v ρ H)) (oB (Di op d e) λv=>.ok v ρ H)
def aE(op:Op)(l r:M R):M R:=aF l λa=>aF r λb cf ρ H=>MI op (den a ρ H) (den b ρ H) cf ρ H
def WH(d:D):Option R:=bb d.i λi=>some (.val (.int (-i)))
def sP(m:M R):M R:=xo WH m
set_option genCtorIdx true in
inductive MJ where|eq|ne|lt|le|gt|ge|is|j9|isIn|ry
noncomputable def rz:V->Option (List Nat)| .str s=>some s|_=>.none
noncomputable def zR:List V->List V->Option Bool
 |[],y=>some (y.isEmpty)
 |a::x,y=>match y with
  |[]=>some false
  |b::y=>bb (rz a) λs=>bb (rz b) λt=>cond (bP s t) (zR x y) (some false)
def sQ(x y:List V):Option Bool:=cond x.isEmpty (some y.isEmpty) (gg y.isEmpty (some false))
noncomputable def eqB(a b:Bool):Bool:=cond a b (cond b false true)
def Ve(d e:D)(r:Option Bool):Option Bool:=
 oo d.i (λa=>bb e.i λb=>some (decide (a=b)))<|
 oo d.s (λa=>bb e.s λb=>some (bP a b))<|
 oo d.b (λa=>bb e.b λb=>some (eqB a b))<|
 oo d.l (λa=>bb e.l λb=>sQ a b) r
def WI(d e:D):Option Bool:=Ve d e (bb d.t λa=>bb e.t λb=>zR a b)
def WJ(d e:D):Option Bool:=Ve d e .none
noncomputable def Rf(f:V->Option Bool):List V->Option Bool
 |[]=>some false
 |v::r=>bb (f v) λb=>bb (Rf f r) λx=>some (cond b true x)
noncomputable def Dk:V->Option Bool| .none=>some true| .tup _=>some false|_=>.none
def Rg(a:List Nat)(v:V):Option Bool:=bb (rz v) λb=>some (bP b a)
def Rh(a:Int)(v:V):Option Bool:=bb (ru v) λb=>some (decide (b=a))
def kD{α:Type}(k:List Nat)(l:List (List Nat×α)):Bool:=(bX k l).isSome
def inD(d e:D):Option Bool:=
 oo e.it (λl=>oo d.s (λa=>Rf (Rg a) l)<|oo d.i (λa=>Rf (Rh a) l)<|bb d.n λb=>gg b (Rf Dk l))<|
 bb e.d λkvs=>bb d.s λk=>some (kD k kvs)
def WK(d e:D):Option Bool:=bb e.n λb=>gg b d.n
def Qy(f:Int->Int->Bool)(d e:D):Option Bool:=bb d.i λi=>bb e.i λj=>some (f i j)
def HS(x:Option Bool):Option Bool:=bb x λb=>some (cond b false true)
def Dl(op:MJ)(d e:D):Option Bool:=match op with
 | .eq=>WI d e
 | .ne=>HS (WJ d e)
 | .isIn=>inD d e
 | .ry=>HS (inD d e)
 | .is=>WK d e
 | .j9=>HS (WK d e)
 | .lt=>Qy (λx y=>decide (x<y)) d e
 | .le=>Qy (λx y=>decide (x<=y)) d e
 | .gt=>Qy (λx y=>decide (y<x)) d e
 | .ge=>Qy (λx y=>decide (y<=x)) d e
noncomputable def WL:MJ->Option Nat| .eq=>some 4| .ne=>some 5| .lt=>some 6| .le=>some 7| .gt=>some 8| .ge=>some 9|_=>.none
noncomputable def Dm:R->Option Bool| .val (.bool b)=>some b|_=>.none
def sR(op:MJ)(d e:D)(cf:CF)(ρ:Env)(H:Hp):Out Bool:=Hi (WL op) (λo=>Hi d.i (λi=>oB e.i λj=>(vh o i j cf ρ H).bind λr ρ H=>oB (Dm r) λb=>.ok b ρ H) (oB (Dl op d e) λb=>.ok b ρ H)) (oB (Dl op d e) λb=>.ok b ρ H)
def ay(op:MJ)(l r:M R):M Bool:=aF l λa=>aF r λb cf ρ H=>sR op (den a ρ H) (den b ρ H) cf ρ H
def o5(op op':MJ)(l m r:M R):M Bool:=aF l λa=>aF m λb cf ρ H=>(sR op (den a ρ H) (den b ρ H) cf ρ H).bind λx ρ H=>
 cond x ((r cf ρ H).bind λc ρ' H'=>sR op' (den b ρ' H') (den c ρ' H') cf ρ' H') (.ok false ρ H)
def jb(t:M Bool):M Bool:=aF t λb=>ee (cond b false true)
noncomputable def kE:List (M Bool)->M Bool
 |[]=>ee true
 |t::r=>aF t λb cf ρ H=>cond b (kE r cf ρ H) (.ok false ρ H)
noncomputable def Hj:List (M Bool)->M Bool
 |[]=>ee false
 |t::r=>aF t λb cf ρ H=>cond b (.ok true ρ H) (Hj r cf ρ H)
def Ri(d:D):Option Bool:=oo d.b some<|bb d.l λl=>gg (bf l.length) (some (cond l.isEmpty false true))
def eg(m:M R):M Bool:=xo Ri m
def bT(t:M Bool):M R:=aF t λb=>sN (.bool b)
noncomputable def o6:List (M R)->M R
 |[]=>cF
 |m::r=>cond r.isEmpty m (aF m λa cf ρ H=>oB (den a ρ H).b λb=>cond b (o6 r cf ρ H) (.ok (.val (.bool false)) ρ H))
noncomputable def Qz:List (M R)->M R
 |[]=>cF
 |m::r=>cond r.isEmpty m (aF m λa cf ρ H=>oB (den a ρ H).b λb=>cond b (.ok (.val (.bool true)) ρ H) (Qz r cf ρ H))
def iW(t:M Bool)(a b:M R):M R:=aF t λx cf ρ H=>cond x (a cf ρ H) (b cf ρ H)
def ao(k:Nat)(es:List (M R)):M R:=aF (ja es) λvs cf ρ H=>gr (cf k vs H) ρ
noncomputable def Lb:V->Option (Nat×List V)| .ou k caps=>some (k,caps)|_=>.none
def kF(i:Nat)(es:List (M R)):M R:=aF (fE (aa i)) λv cf ρ H=>oB (Lb v) λc=>(ja es cf ρ H).bind λvs ρ H=>gr (cf c.1 (c.2++vs) H) ρ
def bk(c:Nat)(v:V)(H:Hp):Bool:=match (sM v H).o with|some p=>bo p.1 c| .none=>false
def rA(k c:Nat)(o:M R)(es:List (M R)):M R:=aF (fE o) λv cf ρ H=>bZ (bk c v H) ((ja es cf ρ H).bind λvs ρ H=>gr (cf k (v::vs) H) ρ)
def vj(i:Nat):M V:=λU ρ H=>match bh ρ i with
 | .val v=>.ok v (put ρ i (.fix v)) H
 | .fix v=>.ok v ρ H
 | .own (.list vs)=>.ok (.list vs) (put ρ i (.fix (.list vs))) H
 |_=>.bad
noncomputable def gE:List Nat->M (List V)
 |[]=>ee []
 |i::r=>aF (vj i) λv=>aF (gE r) λvs=>ee (v::vs)
def xF(k:Nat)(caps:List Nat):M R:=aF (gE caps) λvs=>sN (.ou k vs)
def Lc(k:Nat)(d:D):Option R:=oo d.o (λp=>bb (i9 k p.2) λv=>some (.val v))<|bb d.x λw=>gg (bo k 0) (some (.val w))
def av(m:M R)(k:Nat):M R:=xo (Lc k) m
noncomputable def o7:List V->Option V
 |[]=>.none
 |a::r=>cond r.isEmpty (some a) (o7 r)
def itemAt(l:List V)(i:Int):Option V:=match i with
 | .ofNat n=>gg (bf n) (aU l n)
 | .negSucc n=>gg (bo n 0) (o7 l)
def HT{α:Type}(l:List Nat)(i:Int)(f:Nat->α):Option α:=bb (asNat i) λn=>gg (bf l.length) (bb (aU l n) λx=>some (f x))
def Rj(d e:D):Option R:=
 oo e.i (λi=>
  oo d.it (λl=>bb (itemAt l i) λv=>some (.val v))<|
  oo d.s (λl=>HT l i λx=>.val (.str [x]))<|
  oo d.y (λl=>HT l i λx=>.val (.int x))<|
  bb d.a λl=>HT l i λx=>.val (.int x))<|
 bb e.s λk=>bb d.d λkvs=>bb (bX k kvs) λv=>some (.val v)
def aK(m e:M R):M R:=Vd Rj m e
noncomputable def take'{α:Type}:Nat->List α->List α
 |0,_=>[]
 |n+1,l=>match l with|[]=>[]|a::r=>a::take' n r
noncomputable def drop'{α:Type}:Nat->List α->List α
 |0,l=>l
 |n+1,l=>match l with|[]=>[]|_::r=>drop' n r
noncomputable def rev{α:Type}:List α->List α->List α
 |[],acc=>acc
 |a::r,acc=>rev r (a::acc)
def cutD(f:List V->List V)(d:D):Option R:=bb d.l λl=>gg (bf l.length) (some (.own (.list (f l))))
def o8(m:M R)(n:Nat):M R:=xo (cutD (take' n)) m
def xG(m:M R):M R:=xo (cutD λl=>rev l []) m
def Dn(v:V):Option Nat:=bb (ru v) asNat
def Rk(a:D)(x y:V):Option R:=bb a.a λb=>bb (Dn x) λi=>bb (Dn y) λj=>gg (band (bf i) (band (bf j) (bf b.length))) (some (.val (.bytes (take' (j-i) (drop' i b)))))
def HU(m lo hi:M R):M R:=aF m λa=>aF (fE lo) λx=>aF (fE hi) λy U ρ H=>oB (Rk (den a ρ H) x y) λv=>.ok v ρ H
def MK(n:Nat):Option R:=gg (bf n) (some (.val (.int n)))
def Rm(d:D):Option R:=oo d.it (λl=>MK l.length)<|oo d.y (λl=>MK l.length)<|bb d.a λl=>MK l.length
def jc(m:M R):M R:=xo Rm m
def Rn(d:D):Option R:=bb d.i λi=>some (.val (.int (cond (decide (i<0)) (-i) i)))
def lE(m:M R):M R:=xo Rn m
def maxD(d e:D):Option R:=bb d.i λi=>bb e.i λj=>some (.val (.int (cond (decide (i<j)) j i)))
def Dp(a b:M R):M R:=Vd maxD a b
def intD(d:D):Option R:=oo d.i (λi=>some (.val (.int i)))<|bb d.b λb=>some (.val (.int (cond b 1 0)))
def mP(m:M R):M R:=xo intD m
def WM(d:D):Option R:=bb d.it λl=>gg (bf l.length) (some (.val (.tup l)))
def kH(m:M R):M R:=xo WM m
def Ro(d:D):Option R:=bb d.it λl=>gg (bf l.length) (some (.own (.list l)))
def sS(m:M R):M R:=xo Ro m
def sU(d:D):Option R:=oo d.l oZ<|bb d.a λb=>gg (bf b.length) (some (.val (.bytes b)))
def xH(d:D)(cf:CF)(ρ:Env)(H:Hp):Out R:=Hi d.l (λl=>gr (cf 1010 [.list l] H) ρ) (oB (sU d) λv=>.ok v ρ H)
def ek(m:M R):M R:=aF m λa cf ρ H=>xH (den a ρ H) cf ρ H
def vm(m:M R):M R:=aF m λa U ρ H=>oB (den a ρ H).y λb=>bZ (bf b.length) (.ok (.val (.ref H.length)) ρ (H++[.jS b]))
def one?{α:Type}:List α->Option α
 |[]=>.none
 |a::r=>gg r.isEmpty (some a)
def Rp(d:D):Option R:=bb d.d λl=>bb (one? l) λp=>some (.own (.list [.str p.1]))
def sV(m:M R):M R:=xo Rp m
set_option genCtorIdx true in
inductive Ix where|obj (i:Nat)|own (i:Nat)
noncomputable def Ld:V->Option Nat| .ref a=>some a|_=>.none
def Vf:R->Option Ix
 | .slot i=>some (.own i)
 | .val v=>bb (Ld v) λa=>some (.obj a)
 | .own _=>.none
noncomputable def sW:Slot->Option cy| .own o=>some o|_=>.none
def dg(ρ:Env)(H:Hp):Ix->Option cy
 | .obj i=>aU H i
 | .own i=>sW (bh ρ i)
def ML(r:R)(ρ:Env)(H:Hp):Option cy:=bb (Vf r) (dg ρ H)
def qN(ρ:Env)(x:Ix)(o:cy):Env:=match x with| .own i=>put ρ i (.own o)| .obj _=>ρ
def sX(H:Hp)(x:Ix)(o:cy):Hp:=match x with| .obj i=>put H i o| .own _=>H
def kI(r:R)(f:cy->Option (cy×V))(ρ:Env)(H:Hp):Out V:=oB (Vf r) λx=>oB (bb (dg ρ H x) f) λp=>.ok p.2 (qN ρ x p.1) (sX H x p.1)
def MM{α:Type}(f:cy->Option α)(r:R)(ρ:Env)(H:Hp):Bool:=(bb (ML r ρ H) f).isSome
noncomputable def iI:cy->Option (List V)| .list vs=>some vs|_=>.none
noncomputable def Dq:cy->Option (List (List Nat×V))| .dict k=>some k|_=>.none
noncomputable def Lg:cy->Option (Nat×List (Nat×V))| .inst c fs=>some (c,fs)|_=>.none
noncomputable def Lh:cy->Option (List Nat)| .jS b=>some b|_=>.none
noncomputable def vn(x:Out V):Out R:=x.bind λv ρ H=>.ok (.val v) ρ H
def MN(v:V)(o:cy):Option (cy×V):=bb (iI o) λvs=>gg (bf vs.length) (some (.list (vs++[v]),.none))
def bN(o e:M R):M R:=aF o λr cf ρ H=>bZ (MM iI r ρ H) ((oY e cf ρ H).bind λv ρ H=>vn (kI r (MN v) ρ H))
def MO(ws:List V)(o:cy):Option (cy×V):=bb (iI o) λvs=>gg (bf (vs.length+ws.length)) (some (.list (vs++ws),.none))
def Dr(r:R)(ρ:Env)(H:Hp):Option (List V):=match r with
 | .own o=>iI o
 |r=>bb (ML r ρ H) iI
def dh(o e:M R):M R:=aF o λr cf ρ H=>bZ (MM iI r ρ H) ((e cf ρ H).bind λb ρ H=>oB (Dr b ρ H) λws=>vn (kI r (MO ws) ρ H))
noncomputable def init:List V->List V
 |[]=>[]
 |a::r=>cond r.isEmpty [] (a::init r)
def MQ(o:cy):Option (cy×V):=bb (iI o) λvs=>gg (bf vs.length) (bb (o7 vs) λv=>some (.list (init vs),v))
def qQ(o:M R):M R:=aF o λr U ρ H=>vn (kI r MQ ρ H)
def getD(o:D)(k dv:V):Option R:=bb o.d λkvs=>bb (rz k) λs=>oo (bX s kvs) (λv=>some (.val v)) (some (.val dv))
def Dt(o k d:M R):M R:=aF o λr cf ρ H=>bZ (den r ρ H).d.isSome ((fE k cf ρ H).bind λkv ρ H=>(oY d cf ρ H).bind λdv ρ H=>oB (getD (den r ρ H) kv dv) λv=>.ok v ρ H)
noncomputable def fV:List Nat:=[43,32,45,32,42,32,47,32,42,42]
def MR(d:D):Option R:=bb d.s λs=>gg (bP s fV) (some (.own (.list [.str [43],.str [45],.str [42],.str [47],.str [42,42]])))
def xJ(m:M R):M R:=xo MR m
noncomputable def asBytes:V->Option (List Nat)| .bytes b=>some b|_=>.none
noncomputable def Du:List V->Option (List Nat)
 |[]=>some []
 |v::r=>bb (asBytes v) λb=>bb (Du r) λl=>some (b++l)
def Rq(d:D):Option R:=bb d.l λl=>bb (Du l) λb=>gg (bf b.length) (some (.val (.bytes b)))
def Dv(m:M R):M R:=xo Rq m
inductive Src where
 |vals (vs:List V)
 |heap (a:Nat)
noncomputable def WN(b:List Nat):List V:=b.map λ(n:Nat)=>V.int n
def Rr(a:Nat):cy->Option Src
 | .list _=>some (.heap a)
 | .dict k=>gg k.isEmpty (some (.vals []))
 |_=>.none
def Rt(v:V)(H:Hp):Option Src:=match v with
 | .list vs=>some (.vals vs)
 | .tup vs=>some (.vals vs)
 | .bytes b=>some (.vals (WN b))
 | .ref a=>bb (aU H a) (Rr a)
 |_=>.none
def srcOf(m:M R):M Src:=aF (oY m) λv U ρ H=>oB (Rt v H) λs=>.ok s ρ H
noncomputable def kJ:Nat->Int->List V
 |0,_=>[]
 |n+1,i=>.int i::kJ n (i+1)
def Ru(i:Int):Bool:=aT i.natAbs (2^62)
def MS(i j:Int):Option Src:=gg (band (Ru i) (Ru j)) (gg (aT (j-i).toNat 65536) (some (.vals (kJ (j-i).toNat i))))
def Rw(d e:D):Option Src:=bb d.i λi=>bb e.i λj=>MS i j
def bU(a b:M R):M Src:=Vd Rw a b
noncomputable def Rx:V->Option (List V)
 | .list vs=>some vs
 | .tup vs=>some vs
 |_=>.none
noncomputable def Dw:V->Option (List V)
 | .list vs=>some vs
 |_=>.none
noncomputable def Bs:List V->List V->List V
 |a::x,b::y=>.tup [a,b]::Bs x y
 |_,_=>[]
def o9(a b:M R):M Src:=aF (oY a) λx=>aF (oY b) λy U ρ H=>oB (Rx x) λp=>oB (Dw y) λq=>.ok (.vals (Bs p q)) ρ H
noncomputable def vo:Nat->List V->List V
 |_,[]=>[]
 |n,a::r=>.tup [.int n,a]::vo (n+1) r
def lF(a:M R):M Src:=aF (oY a) λx U ρ H=>oB (Dw x) λp=>.ok (.vals (vo 0 p)) ρ H
def gK(s:Src)(k:Nat)(H:Hp):Option (Option V):=match s with
 | .vals vs=>some (aU vs k)
 | .heap a=>bb (bb (aU H a) iI) λvs=>some (aU vs k)
abbrev T:=R->M Unit
noncomputable def Li:Slot->Bool| .fix _=>true|_=>false
def Bt(i:Nat)(x:Slot):M Unit:=λU ρ H=>cond (Li (bh ρ i)) .bad (.ok () (put ρ i x) H)
def aj(i:Nat):T:=λr=>match r with
 | .val v=>Bt i (.val v)
 | .own o=>Bt i (.own o)
 | .slot j=>aF (qM (.slot j)) λv=>Bt i (.val v)
noncomputable def zS:List T->List V->M Unit
 |[],l=>λU ρ H=>bZ l.isEmpty (.ok () ρ H)
 |t::ts,l=>match l with
  |[]=>cF
  |v::vs=>aF (t (.val v)) λU=>zS ts vs
def dX(ts:List T):T:=λr cf ρ H=>oB (den r ρ H).t λl=>bZ (bo ts.length l.length) (zS ts l cf ρ H)
def share(r:R):M V:=λcf ρ H=>match r with
 | .own (.list vs)=>xE (.list vs) ρ H
 |r=>qM r cf ρ H
noncomputable def pe(x:Out V):Out Unit:=x.bind λU ρ H=>.ok () ρ H
def MT(k:Nat)(v:V)(o:cy):Option (cy×V):=bb (Lg o) λp=>some (.inst p.1 (lC k v p.2),.none)
def aO(m:M R)(k:Nat):T:=λr=>aF (share r) λv=>aF m λo U ρ H=>pe (kI o (MT k v) ρ H)
def MU(d:D)(v:V)(o:cy):Option (cy×V):=
 oo d.i (λi=>bb (asNat i) λn=>bb (iI o) λvs=>gg (band (aT n vs.length) (bf n)) (some (.list (put vs n v),.none)))<|
 bb d.s λs=>bb (Dq o) λkvs=>gg (bf kvs.length) (some (.dict (nY s v kvs),.none))
def nZ(m e:M R):T:=λr=>aF (qM r) λv=>aF m λo=>aF e λi U ρ H=>pe (kI o (MU (den i ρ H) v) ρ H)
def Zc(i j:Nat)(w b:List Nat):List Nat:=take' i b++w++drop' j b
def WO(i j:Nat)(w:List Nat)(o:cy):Option (cy×V):=bb (Lh o) λb=>gg (band (eh i j) (band (eh j b.length) (bf (b.length+w.length)))) (some (.jS (Zc i j w b),.none))
def WQ(x y w:V)(o:cy):Option (cy×V):=bb (Dn x) λi=>bb (Dn y) λj=>bb (asBytes w) λw=>WO i j w o
def xK(m lo hi:M R):T:=λr=>aF (qM r) λv=>aF m λo=>aF (fE lo) λx=>aF (fE hi) λy U ρ H=>pe (kI o (WQ x y v) ρ H)
inductive Flow where
 |next|brk|cont
 |ret (r:R)
abbrev fF:=M Flow
noncomputable def cJ:Nat:=4096
def af(t:T)(e:M R):fF:=aF e λr=>aF (t r) λU=>ee .next
def keepR(r:R):M R:=match r with
 | .slot i=>aF (qM (.slot i)) λv=>sN v
 |x=>ee x
noncomputable def mQ:List (M R)->M (List R)
 |[]=>ee []
 |m::r=>aF m λa=>aF (keepR a) λa'=>aF (mQ r) λas=>ee (a'::as)
noncomputable def rC:List T->List R->M Unit
 |[],l=>λU ρ H=>bZ l.isEmpty (.ok () ρ H)
 |t::ts,l=>match l with
  |[]=>cF
  |v::vs=>aF (t v) λU=>rC ts vs
def fW(ts:List T)(es:List (M R)):fF:=aF (mQ es) λrs=>aF (rC ts rs) λU=>ee .next
def bG(ts:List T)(es:List (M R)):fF:=aF (mQ es) λrs=>aF (rC (rev ts []) (rev rs [])) λU=>ee .next
def ah(e:M R):fF:=aF e λr=>ee (.ret r)
noncomputable def Ry:V->Bool| .none=>true| .bool _=>true| .ref _=>true|_=>false
def bJ(e:M R):fF:=aF (fE e) λv U ρ H=>bZ (Ry v) (.ok .next ρ H)
noncomputable def br:List fF->fF
 |[]=>ee .next
 |s::r=>aF s λf cf ρ H=>match f with| .next=>br r cf ρ H|f=>.ok f ρ H
def b7(t:M Bool)(a b:List fF):fF:=aF t λx cf ρ H=>cond x (br a cf ρ H) (br b cf ρ H)
noncomputable def turn(f:Flow)(again:Out Flow)(ρ:Env)(H:Hp):Out Flow:=match f with
 | .next=>again
 | .cont=>again
 | .brk=>.ok .next ρ H
 | .ret r=>.ok (.ret r) ρ H
noncomputable def whileLoop:Nat->M Bool->fF->fF
 |0,_,_=>cF
 |n+1,t,body=>aF t λb cf ρ H=>cond b ((body cf ρ H).bind λf ρ H=>turn f (whileLoop n t body cf ρ H) ρ H) (.ok .next ρ H)
def ic(t:M Bool)(body:List fF):fF:=whileLoop cJ t (br body)
def sY{α:Type}(s:Src)(k:Nat)(H:Hp)(e:Out α)(f:V->Out α):Out α:=oB (gK s k H) λx=>match x with|some v=>f v| .none=>e
noncomputable def forLoop:Nat->Nat->T->Src->fF->fF
 |0,_,_,_,_=>cF
 |n+1,k,t,s,body=>λcf ρ H=>sY s k H (.ok .next ρ H) λv=>((t (.val v) cf ρ H).bind λU ρ H=>body cf ρ H).bind λf ρ H=>turn f (forLoop n (k+1) t s body cf ρ H) ρ H
def dY(t:T)(s:M Src)(body:List fF):fF:=aF s λsrc=>forLoop cJ 0 t src (br body)
noncomputable def Dy:fF:=ee .cont
def cQ(k:Nat)(e:M R):fF:=aF (oY e) λv U ρ H=>oB (rz v) λs=>.exc k (.str s) ρ H
noncomputable def n6(k:Nat):List Nat->Bool
 |[]=>false
 |a::r=>cond (bo a k) true (n6 k r)
noncomputable def xM:Flow->Bool| .ret (.slot _)=>false|_=>true
def pg(x:Out Flow)(ok:Flow->Env->Hp->Out Flow):Out Flow:=x.fold ok λU U U U=>.bad
def xN(ks:List Nat)(nm:Option Nat)(hand:List fF)(k:Nat)(w:V)(cf:CF)(ρ:Env)(H:Hp):Out Flow:=
 bZ (aT k 3) (cond (n6 k ks) (match nm with
  | .none=>pg (br hand cf ρ H) λf ρ H=>.ok f ρ H
  |some i=>pg (br hand cf (put ρ i (.val (.exc k w))) H) λf ρ H=>bZ (xM f) (.ok f (put ρ i .empty) H)) (.exc k w ρ H))
def MV(x:Out Flow)(g:Nat->V->Env->Hp->Out Flow):Out Flow:=x.fold .ok g
def sZ(body:List fF)(ks:List Nat)(nm:Option Nat)(hand:List fF):fF:=λcf ρ H=>MV (br body cf ρ H) λk w ρ H=>xN ks nm hand k w cf ρ H
noncomputable def eU:Nat->Env
 |0=>[]
 |n+1=>.empty::eU n
noncomputable def jd:Env->List (Nat×V)->Env
 |ρ,[]=>ρ
 |ρ,a::r=>jd (put ρ a.1 (.val a.2)) r
noncomputable def n7:List (M Bool)->M Bool
 |[]=>ee true
 |t::r=>aF t λb cf ρ H=>cond b (n7 r cf ρ H) (.ok false ρ H)
noncomputable def Lj(b:Bool)(emit:List V->M (List V))(acc:List V):M (List V):=λcf ρ H=>cond b (emit acc cf ρ H) (.ok acc ρ H)
noncomputable def compLoop:Nat->Nat->T->Src->M Bool->(List V->M (List V))->List V->M (List V)
 |0,_,_,_,_,_,_=>cF
 |n+1,k,t,s,c,emit,acc=>λcf ρ H=>sY s k H (.ok acc ρ H) λv=>((t (.val v) cf ρ H).bind λU ρ H=>c cf ρ H).bind λb ρ H=>(Lj b emit acc cf ρ H).bind λacc' ρ H=>compLoop n (k+1) t s c emit acc' cf ρ H
def vp(e:M R)(acc:List V):M (List V):=aF (oY e) λv U ρ H=>bZ (bf acc.length) (.ok (acc++[v]) ρ H)
def s6(caps:List (Nat×Nat)):M (List V):=gE (caps.map (λU=>U.2))
noncomputable def lG:Env->List (Nat×V)->Env
 |ρ,[]=>ρ
 |ρ,a::r=>lG (put ρ a.1 (.fix a.2)) r
def Vg(x:Out (List V))(ρ:Env):Out R:=x.fold (λl U H'=>bZ (bf l.length) (.ok (.own (.list l)) ρ H')) λk w U H'=>.exc k w ρ H'
def inside(n:Nat)(caps:List (Nat×Nat))(vs:List V)(m:M (List V)):M R:=λcf ρ H=>Vg (m cf (lG (eU n) ((caps.map (λU=>U.1)).zip vs)) H) ρ
def er(n:Nat)(caps:List (Nat×Nat))(src:M Src)(t:T)(cs:List (M Bool))(e:M R):M R:=
 aF src λs=>aF (s6 caps) λvs=>inside n caps vs (compLoop cJ 0 t s (n7 cs) (vp e) [])
def xO(n:Nat)(caps:List (Nat×Nat))(src:M Src)(t:T)(cs:List (M Bool))(MW:M Src)(t2:T)(QA:List (M Bool))(e:M R):M R:=
 aF src λs=>aF (s6 caps) λvs=>inside n caps vs (compLoop cJ 0 t s (n7 cs) (λacc=>aF MW λs2=>compLoop cJ 0 t2 s2 (n7 QA) (vp e) acc) [])
inductive Kind where
 |plain
 |make (c:Nat)
 |heap (c:Nat)
structure Fn where
 kind:Kind
 nc:Nat
 ps:List Nat
 dflt:List V
 ns:Nat
 body:List fF
def je(n:Nat)(vs dflt:List V):Option (List V):=
 gg (band (eh vs.length n) (band (eh n (vs.length+dflt.length)) (eh dflt.length n))) (some (vs++drop' (dflt.length+vs.length-n) dflt))
def MX(r:R)(ρ:Env):Option R:=match r with
 | .slot i=>bb (sW (bh ρ i)) λo=>some (.own o)
 |r=>some r
def WR(f:Flow)(ρ:Env)(H:Hp):Res:=match f with
 | .ret r=>rB (MX r ρ) λx=>.ok x H
 | .next=>.ok (.val .none) H
 |_=>.bad
noncomputable def WS(k:Nat)(w:V)(_:Env)(H:Hp):Res:=.exc k w H
def eB(out:Out Flow):Res:=out.res WR WS
noncomputable def WT(_:Nat)(_:V)(_:Env)(_:Hp):Res:=.bad
noncomputable def Dz(x:Res)(f:Flow):Res:=match f with| .next=>x|_=>.bad
def ow(l:Nat)(out:Out Flow):Res:=out.res (λf U H=>Dz (.ok (.val (.ref l)) H) f) WT
def oz(i:Nat)(out:Out Flow):Res:=out.res (λf ρ H=>Dz (rB (MX (.slot i) ρ) λx=>.ok x H) f) WT
noncomputable def tl{α:Type}:List α->List α|[]=>[]|_::r=>r
def iJ(f:Fn)(cf:CF)(vs:List V)(H:Hp):Res:=match f.kind with
 | .plain=>rB (je f.ps.length vs f.dflt) λws=>eB (br f.body cf (jd (lG (eU f.ns) (take' f.nc (f.ps.zip ws))) (drop' f.nc (f.ps.zip ws))) H)
 | .make c=>rB (aU f.ps 0) λp=>rB (je (tl f.ps).length vs f.dflt) λws=>oz p (br f.body cf (jd (put (eU f.ns) p (.own (.inst c []))) ((tl f.ps).zip ws)) H)
 | .heap c=>rB (aU f.ps 0) λU=>rB (je (tl f.ps).length vs f.dflt) λws=>ow H.length (br f.body cf (jd (eU f.ns) (f.ps.zip (.ref H.length::ws))) (H++[.inst c []]))
noncomputable def DA(tab:List Fn)(bi:CF->CF):Nat->CF
 |0=>λU U U=>.bad
 |n+1=>λk vs H=>rB (aU tab k) λf=>iJ f (bi (DA tab bi n)) vs H
def DB(cf:CF):CF:=λk vs H=>cond (eh 1000 k) (La (k-1000) vs H) (cf k vs H)
def run(tab:List Fn)(n:Nat):CF:=DB (DA tab DB n)
end MP
end Mine.Lake
end
section
set_option backward.match.sparseCases false
namespace Mine.Lake
namespace MP
open PySem
noncomputable def sl(x:Str):List Nat:=x.cps.toList
inductive GV where
 |fn (k:Nat)
 |val (v:V)
 |bi (n:Nat)
noncomputable def gM:NameKind->Bool
 | .local=>true
 | .cell=>true
 | .free=>true
 |_=>false
noncomputable def DC(x:List Nat):Nat->List (Str×NameKind)->Option Nat
 |_,[]=>.none
 |i,a::r=>cond (bP (sl a.1) x) (gg (gM a.2) (some i)) (DC x (i+1) r)
def iQ(sc:abL)(x:Str):Option Nat:=DC (sl x) 0 sc.names
noncomputable def cU:NameKind->Bool
 | .cell=>true
 | .free=>true
 |_=>false
noncomputable def s7(x:List Nat):Nat->List (Str×NameKind)->Option Nat
 |_,[]=>.none
 |i,a::r=>cond (bP (sl a.1) x) (gg (cU a.2) (some i)) (s7 x (i+1) r)
def Bu(sc:abL)(x:Str):Option Nat:=s7 (sl x) 0 sc.names
noncomputable def DE:NameKind->Bool
 | .local=>true
 |_=>false
noncomputable def gu(x:List Nat):List (Str×NameKind)->Bool
 |[]=>false
 |a::r=>cond (bP (sl a.1) x) (DE a.2) (gu x r)
noncomputable def Rz:NameKind->Bool| .globalImplicit=>true|_=>false
noncomputable def pn(x:List Nat):List (Str×NameKind)->Bool
 |[]=>false
 |a::r=>cond (bP (sl a.1) x) (Rz a.2) (pn x r)
def fG(sc:abL)(x:Str):Bool:=pn (sl x) sc.names
noncomputable def idxOf(x:List Nat):Nat->List (List Nat)->Option Nat
 |_,[]=>.none
 |i,n::r=>cond (bP n x) (some i) (idxOf x (i+1) r)
noncomputable def MY:Op->Operator
 | .add=>.Add
 | .sub=>.Sub
 | .mul=>.Mult
 | .fdiv=>.FloorDiv
 | .mod=>.Mod
 | .pow=>.Pow
noncomputable def jf:CmpOp->MJ
 | .Eq=>.eq| .NotEq=>.ne| .Lt=>.lt| .LtE=>.le| .Gt=>.gt| .GtE=>.ge| .Is=>.is| .IsNot=>.j9| .In=>.isIn| .NotIn=>.ry
noncomputable def nameIn(x:List Nat):List (Str×NameKind)->Bool
 |[]=>false
 |a::r=>cond (bP (sl a.1) x) true (nameIn x r)
noncomputable def dK:List (Str×NameKind)->Bool
 |[]=>true
 |a::r=>cond (nameIn (sl a.1) r) false (dK r)
noncomputable def isFun:ScopeKind->Bool
 | .function=>true
 |_=>false
def s8(ns:List (Str×NameKind)):Bool:=cond (nameIn (sl "__debug__") ns) false (cond (nameIn (sl "__classdict__") ns) false true)
def vq(sc:abL):Bool:=band (dK sc.names) (band (isFun sc.kind) (cond sc.isGenerator false (cond sc.isCoroutine false (s8 sc.names))))
noncomputable def oA:NameKind->Bool| .free=>true|_=>false
noncomputable def oE:NameKind->Bool| .cell=>true|_=>false
noncomputable def fS(sc:abL):Nat->List (Str×NameKind)->Option (List (Nat×Nat))
 |_,[]=>some []
 |i,a::r=>cond (oA a.2) (bb (Bu sc a.1) λj=>bb (fS sc (i+1) r) λl=>some ((i,j)::l)) (fS sc (i+1) r)
noncomputable def bC(sc:abL):List Str->Option (List Nat)
 |[]=>some []
 |x::r=>bb (iQ sc x) λi=>bb (bC sc r) λl=>some (i::l)
noncomputable def oF:List (Str×NameKind)->Bool
 |[]=>true
 |a::r=>cond (oA a.2) false (oF r)
noncomputable def eZ:List (Str×NameKind)->Bool
 |[]=>true
 |a::r=>cond (oE a.2) false (eZ r)
noncomputable def bg:List (Str×NameKind)->List Str
 |[]=>[]
 |a::r=>cond (oA a.2) (a.1::bg r) (bg r)
noncomputable def s9(x:List Nat):Nat->List (Str×NameKind)->Option Nat
 |_,[]=>.none
 |i,a::r=>cond (bP (sl a.1) x) (gg (oE a.2) (some i)) (s9 x (i+1) r)
def MZ(sc:abL)(x:Str):Option Nat:=s9 (sl x) 0 sc.names
noncomputable def eE(sc:abL):List (Str×NameKind)->Option (List Nat)
 |[]=>some []
 |a::r=>cond (oA a.2) (bb (MZ sc a.1) λj=>bb (eE sc r) λl=>some (j::l)) (eE sc r)
def cs(x:String):List Nat:=sl (ei x)
def vs(x:String):V:=.str (cs x)
def bx:List (List Nat):=[cs "what",cs "name",cs "files",cs "linkage",cs "working",cs "kids",cs "parent",cs "occurs",cs "level",cs "offset",cs "size",cs "high",cs "category",cs "digits",cs "scale",cs "is_signed",cs "indexes",cs "shape",cs "is_separate",cs "sign",cs "usage",cs "~1",cs "value",cs "redefines",cs "~2",cs "base",cs "links",cs "memory",cs "data",cs "program",cs "picture",cs "is_blank_zero",cs "~3",cs "is_justified",cs "picture_text",cs "conditions",cs "renames",cs "low",cs "depending",cs "keys",cs "sorts",cs "shelf",cs "rows",cs "told_rows",cs "handles",cs "open_paths",cs "open_row",cs "procedures",cs "is_initial"]
def fL:List (List Nat×GV):=[
 (cs "only_one",.fn 0),
 (cs "find_item",.fn 1),
 (cs "records",.fn 2),
 (cs "items_under",.fn 3),
 (cs "all_items",.fn 4),
 (cs "items_around",.fn 5),
 (cs "root_of",.fn 6),
 (cs "names_around",.fn 7),
 (cs "tables_around",.fn 8),
 (cs "is_group",.fn 9),
 (cs "plain_kids",.fn 10),
 (cs "file_of",.fn 11),
 (cs "leads_through",.fn 12),
 (cs "stretch",.fn 13),
 (cs "is_numeric",.fn 14),
 (cs "has_units",.fn 15),
 (cs "unit_bound",.fn 16),
 (cs "group_shape",.fn 17),
 (cs "text_shape",.fn 18),
 (cs "numbered_shape",.fn 19),
 (cs "figure_count",.fn 20),
 (cs "number_shape",.fn 21),
 (cs "index_shape",.fn 22),
 (cs "item_of",.fn 23),
 (cs "is_index_name",.fn 24),
 (cs "part_faults",.fn 25),
 (cs "item_faults",.fn 26),
 (cs "ref_faults",.fn 27),
 (cs "operand_faults",.fn 28),
 (cs "operand_shape",.fn 29),
 (cs "category_of",.fn 30),
 (cs "is_number_operand",.fn 31),
 (cs "number_faults",.fn 32),
 (cs "name_of",.fn 33),
 (cs "place_faults",.fn 34),
 (cs "arith_faults",.fn 35),
 (cs "cut_quotient",.fn 36),
 (cs "decimal",.fn 37),
 (cs "kept",.fn 38),
 (cs "units_beside",.fn 39),
 (cs "plus",.fn 40),
 (cs "minus",.fn 41),
 (cs "times",.fn 42),
 (cs "negated",.fn 43),
 (cs "quotient",.fn 44),
 (cs "units_at",.fn 45),
 (cs "is_whole",.fn 46),
 (cs "whole_of",.fn 47),
 (cs "fits",.fn 48),
 (cs "kept_units",.fn 49),
 (cs "figures_for",.fn 50),
 (cs "display_octets",.fn 51),
 (cs "binary_octets",.fn 52),
 (cs "octets_for",.fn 53),
 (cs "joined_figures",.fn 54),
 (cs "display_units",.fn 55),
 (cs "units_in",.fn 56),
 (cs "number_in",.fn 57),
 (cs "unvalued",.fn 58),
 (cs "first_octets",.fn 59),
 (cs "initial_memory",.fn 60),
 (cs "postfix",.fn 61),
 (cs "applied",.fn 62),
 (cs "reckoned",.fn 63),
 (cs "is_index",.fn 64),
 (cs "memory_of",.fn 65),
 (cs "place_of_octets",.fn 66),
 (cs "part_of",.fn 67),
 (cs "spot_in",.fn 68),
 (cs "operand_in",.fn 69),
 (cs "number_of",.fn 70),
 (cs "worth_in",.fn 71),
 (cs "whole_in",.fn 72),
 (cs "number_octets",.fn 73),
 (cs "store",.fn 74),
 (cs "reckoned_way",.fn 75),
 (cs "put_row",.fn 76),
 (cs "put_rows_with",.fn 77),
 (cs "put_rows",.fn 78),
 (cs "_law_pen",.fn 79),
 (cs "_law_draw",.fn 80),
 (cs "_law_laid",.fn 81),
 (cs "_law_number",.fn 82),
 (cs "_law_world",.fn 83),
 (cs "_law_octets",.fn 84),
 (cs "_law_name",.fn 85),
 (cs "_law_subscript",.fn 86),
 (cs "_law_ref",.fn 87),
 (cs "_law_leaf",.fn 88),
 (cs "_law_expr",.fn 89),
 (cs "_law_told",.fn 90),
 (cs "Shape",.fn 95),
 (cs "Item",.fn 96),
 (cs "Occurs",.fn 97),
 (cs "Data",.fn 98),
 (cs "World",.fn 99),
 (cs "Program",.fn 100),
 (cs "ARITHMETIC",.val (vs "+ - * / **")),
 (cs "FILLER",.val (vs "FILLER")),
 (cs "INDEX_DIGITS",.val (.int 9)),
 (cs "INDEX_NAME",.val (vs "index-name")),
 (cs "INDEX_SIZE",.val (.int 4)),
 (cs "MINUS",.val (.int 45)),
 (cs "MINUS_FIGURES",.val (.bytes [125,74,75,76,77,78,79,80,81,82])),
 (cs "MOST_FIGURES",.val (.int 120)),
 (cs "MOST_PLACES",.val (.int 30)),
 (cs "NOUGHT",.val (.int 48)),
 (cs "NUMBER_PLACES",.val (.tup [(vs "numeric"),(vs "edited")])),
 (cs "PLUS",.val (.int 43)),
 (cs "PLUS_FIGURES",.val (.bytes [123,65,66,67,68,69,70,71,72,73])),
 (cs "RENAMING",.val (.int 66)),
 (cs "TWO_SIDED",.val (.tup [(vs "+"),(vs "-"),(vs "*"),(vs "/"),(vs "**")])),
 (cs "len",.bi 0),
 (cs "abs",.bi 1),
 (cs "max",.bi 2),
 (cs "int",.bi 3),
 (cs "tuple",.bi 4),
 (cs "bytes",.bi 5),
 (cs "bytearray",.bi 6),
 (cs "list",.bi 7),
 (cs "sorted",.bi 8),
 (cs "range",.bi 9),
 (cs "zip",.bi 10),
 (cs "enumerate",.bi 11)]
noncomputable def xP(l:List ec)(i:Nat):ec:=l.getD i (.Pass default)
noncomputable def DF(l:List bp)(i:Nat):bp:=l.getD i (.Name (ei "") default)
noncomputable def DG:bp->List bp| .Call _ as _ _=>as|_=>[]
def tn:ec->List bp| .Return (some e) _=>DG e|_=>[]
def exprArgs:ec->List bp| .Expr e _=>DG e|_=>[]
noncomputable def HV:ec->List ec| .Try b _ _ _ _=>b|_=>[]
noncomputable def tu:bp->Option (acX×bp×abL)
 | .Lambda args body sc _=>some (args,body,sc)
 |_=>.none
def cz(k:Nat):Option (acX×bp×abL):=match k with
 |101=>tu (DF (tn (xP (iY (top 149)) 0)) 1)
 |102=>tu (DF (tn (xP (iY (top 157)) 0)) 2)
 |103=>tu (DF (tn (xP (iY (top 157)) 0)) 3)
 |104=>tu (DF (DG (DF (exprArgs (xP (HV (xP (iY (top 172)) 2)) 0)) 2)) 1)
 |_=>.none
def kg:List (List Nat×Nat×Nat):=[(cs "add",92,1),(cs "count",93,1),(cs "sign_place",94,0)]
def gw:List (List Nat×Nat):=[(cs "CheckFault",0),(cs "RunFault",1),(cs "SizeFault",2)]
def glob(sc:abL)(x:Str):Option GV:=gg (fG sc x) (bX (sl x) fL)
end MP
end Mine.Lake
end
section
namespace Mine.Lake
namespace MP
open PySem PySem.W PyProof.Rows
noncomputable def kK:List Addr:=[320,172,125,198,915,1047]
@[irreducible] def dM (c:Nat):Addr:=(aU kK c).getD 320
noncomputable def vt:List Addr:=[72,84,96]
@[irreducible] def cB (k:Nat):Addr:=(aU vt k).getD 72
def rD:List (Addr×Stmt×List V):=[
 (276,top 25,[]),
 (281,top 26,[]),
 (209,top 13,[]),
 (216,top 14,[]),
 (223,top 15,[]),
 (230,top 16,[]),
 (237,top 17,[]),
 (242,top 18,[]),
 (247,top 19,[]),
 (252,top 20,[]),
 (257,top 21,[]),
 (262,top 23,[]),
 (269,top 24,[]),
 (288,top 27,[]),
 (331,top 32,[]),
 (338,top 33,[]),
 (345,top 34,[]),
 (352,top 35,[]),
 (359,top 36,[]),
 (366,top 37,[]),
 (373,top 38,[]),
 (380,top 39,[]),
 (387,top 40,[]),
 (394,top 44,[]),
 (401,top 45,[]),
 (408,top 46,[]),
 (415,top 47,[]),
 (422,top 48,[]),
 (429,top 49,[]),
 (436,top 50,[]),
 (443,top 51,[]),
 (450,top 52,[]),
 (457,top 53,[]),
 (464,top 54,[]),
 (471,top 55,[]),
 (479,top 58,[]),
 (486,top 63,[]),
 (494,top 64,[(.int 0)]),
 (501,top 65,[]),
 (508,top 66,[]),
 (515,top 67,[]),
 (522,top 68,[]),
 (529,top 69,[]),
 (536,top 70,[]),
 (544,top 71,[(.int 30)]),
 (558,top 73,[]),
 (565,top 74,[]),
 (572,top 75,[]),
 (579,top 76,[]),
 (707,top 104,[]),
 (714,top 105,[]),
 (719,top 106,[]),
 (731,top 108,[]),
 (738,top 109,[]),
 (745,top 110,[]),
 (757,top 112,[]),
 (778,top 115,[]),
 (785,top 116,[]),
 (864,top 132,[]),
 (869,top 133,[]),
 (876,top 134,[]),
 (884,top 137,[]),
 (891,top 138,[]),
 (898,top 139,[]),
 (926,top 142,[]),
 (933,top 143,[]),
 (940,top 144,[]),
 (947,top 145,[]),
 (952,top 146,[]),
 (959,top 147,[]),
 (966,top 148,[]),
 (973,top 149,[]),
 (980,top 150,[]),
 (987,top 151,[]),
 (994,top 152,[]),
 (1001,top 154,[]),
 (1008,top 155,[]),
 (1015,top 156,[]),
 (1022,top 157,[]),
 (1058,top 161,[]),
 (1065,top 162,[]),
 (1073,top 163,[(.int 0)]),
 (1080,top 164,[]),
 (1087,top 165,[]),
 (1092,top 166,[]),
 (1102,top 167,[(.tup []),(.tup []),.none]),
 (1109,top 168,[]),
 (1114,top 169,[]),
 (1121,top 170,[]),
 (1128,top 171,[]),
 (1133,top 172,[]),
 (1140,top 173,[]),
 (150,Bh 11 1,[]),
 (157,Bh 11 2,[]),
 (317,Bh 31 2,[])]
def WU:List Addr:=rD.map (λU=>U.1)++kK
@[irreducible] def pq (k:Nat):Value:=match aU WU k with|some a=>.ref a|none=>.none
@[irreducible] def fX:List (Addr×Addr×Str):=[(280,278,S "find_item.<locals>.<lambda>"),(261,259,S "file_of.<locals>.<lambda>"),(951,949,S "spot_in.<locals>.<lambda>"),(972,968,S "worth_in.<locals>.<lambda>"),(1021,1017,S "put_rows.<locals>.<lambda>"),(1091,1089,S "_law_octets.<locals>.<lambda>"),(1113,1111,S "_law_ref.<locals>.<lambda>"),(1132,1130,S "_law_told.<locals>.<lambda>")]
noncomputable def eL(a:Addr):Bool:=[278,259,949,968,1017,1089,1111,1130].any (bo a)
@[irreducible] def bq (P:abK) (a:Addr):Option Obj:=match (QY P).get a with
 |some o=>cond (cond (eL a) true (cond (aT a 1141) o.isFreed true)) none (some o)
 |none=>none
set_option genCtorIdx true in
inductive Ow where|kept (o:Obj)|held (o:Obj)|ns|cell (i:Nat)|at (x:Ix) (d:Bool)|tab
structure PA where
 a:Addr
 d:Addr
structure Wd where
 W:Addr->Option Ow
 φ:Ix->Option PA
noncomputable abbrev Look:=Addr->Option Obj
noncomputable def bR:Option Ow->Option Obj|some (.kept o)=>some o|_=>none
def Wd.J(y:Wd):Look:=λa=>bR (y.W a)
structure Up(y y':Wd):Prop where
 j: ∀a o,y.J a=some o->y'.J a=some o
 p: ∀i p,y.φ (.obj i)=some p->y'.φ (.obj i)=some p
noncomputable def strOf(l:List Nat):Str:=⟨l.toArray⟩
inductive qT(L:Look)(c:String):Value->List Value->Prop
 |mk {a o xs ep}:L a=some o->o.cls=.type c->o.data=.seq xs ep->qT L c (.ref a) xs.toList
inductive RA(L:Look)(d:Addr)(m:Str->Option Value):Prop
 |mk {o es ep}:L d=some o->o.cls=.type "dict"->o.dict=none->o.data=.dict es ep->adn es->UniqKeys es->(∀n,acv es n=m n)->RA L d m
inductive gx(L:Look)(c:Nat)(a d:Addr)(m:Str->Option Value):Prop
 |mk {o}:L a=some o->o.cls=.ref (dM c)->o.dict=some d->(∀k,o.data≠ .cls k)->d≠a->RA L d m->gx L c a d m
inductive C1(L:Look)(d:Addr)(m:Str->Option Value):Prop
 |mk {o es ep}:L d=some o->o.cls=.type "dict"->o.data=.dict es ep->adn es->(∀n,acv es n=m n)->C1 L d m
inductive qU(L:Look)(k:Nat):Value->Value->Prop
 |mk {a d o m x vs}:L a=some o->o.cls=.ref (cB k)->o.dict=some d->o.data=.fields vs->C1 L d m->m "what"=some x->qU L k (.ref a) x
inductive jg(L:Look)(q:Str):Value->Prop
 |mk {c o vs t}:L c=some o->o.data=.fields vs->vs[1]?=some (.str q t)->jg L q (.ref c)
inductive xQ(L:Look)(k:Nat):Value->List (Str×Addr)->List Str->Prop
 |mk {a o fd args body sc}:L a=some o->o.cls=.type "function"->o.data=.func fd->cz k=some (args,body,sc)->fd.params=args->fd.body=.expr body->fd.scope=sc->fd.globals=abN->fd.builtins=abW->
   fd.defaults=.none->fd.kwdefaults=.none->jg L fd.qualname fd.code->fd.closure.map (λU=>U.1)=(bg sc.names).reverse->xQ L k (.ref a) fd.closure (bg sc.names)
def Dom(fs:List (Nat×V))(m:Str->Option Value):Prop:=(fs.map (λU=>U.1)).Nodup/\ ∀x,m x≠none-> ∃k v,aU bx k=some (sl x)/\i9 k fs=some v
mutual
noncomputable def az(y:Wd):V->Value->Prop
 | .none,x=>x=.none
 | .bool b,x=>x=.bool b
 | .int i,x=> ∃t,x=.int i t
 | .str l,x=> ∃t,x=.str (strOf l) t
 | .bytes l,x=> ∃b t,x=.bytes b t/\b.toList.map ki=l
 | .tup vs,x=> ∃xs,qT y.J "tuple" x xs/\aB y vs xs
 | .list vs,x=> ∃xs,qT y.J "list" x xs/\aB y vs xs
 | .ref i,x=> ∃p,y.φ (.obj i)=some p/\x=.ref p.a
 | .inst c fs,x=> ∃a d m,x=.ref a/\gx y.J c a d m/\Dom fs m/\eN y fs m
 | .ou k vs,x=> ∃cl ns,xQ y.J k x cl ns/\fM y cl vs ns
 | .exc k w,x=> ∃x',qU y.J k x x'/\az y w x'
noncomputable def aB(y:Wd):List V->List Value->Prop
 |[],xs=>xs=[]
 |v::vs,xs=> ∃x r,xs=x::r/\az y v x/\aB y vs r
noncomputable def eN(y:Wd):List (Nat×V)->(Str->Option Value)->Prop
 |[],_=>True
 |(k,v)::r,m=>(∃l x,aU bx k=some l/\m (strOf l)=some x/\az y v x)/\eN y r m
noncomputable def fM(y:Wd)(cl:List (Str×Addr)):List V->List Str->Prop
 |[],ns=>ns=[]
 |v::vs,ns=> ∃n r,ns=n::r/\(∃c o x,cl.lookup n=some c/\y.J c=some o/\o.data=.cell (some x)/\az y v x)/\fM y cl vs r
end
def keyHash(P:abK)(k:List Nat):Int:=if (strOf k).cps.isEmpty then 0 else reduceHash (P.strHash (strOf k).cps)
noncomputable def fN(P:abK)(y:Wd):List (List Nat×V)->List ab3->Prop
 |[],es=>es=[]
 |(k,v)::r,es=> ∃t x r',es=⟨keyHash P k,.str (strOf k) t,x⟩::r'/\az y v x/\fN P y r r'
noncomputable def cy.bk:cy->Bool| .inst .. =>true|_=>false
def dZ(P:abK)(y:Wd)(h:Heap):cy->PA->Prop
 | .list vs,p=> ∃xs ep,h.get? p.a=some {cls:=.type "list",data:=.seq xs ep}/\aB y vs xs.toList
 | .dict kvs,p=> ∃o es ep,h.get? p.a=some o/\o.ExactDict/\o.data=.dict es ep/\fN P y kvs es.toList/\distinct (kvs.map (λU=>U.1))=true
 | .inst c fs,p=> ∃m,gx h.get? c p.a p.d m/\Dom fs m/\eN y fs m
 | .jS b,p=> ∃o arr,h.get? p.a=some o/\o.cls=.type "bytearray"/\o.data=.bytearray arr 0/\arr.toList.map ki=b
def Pl(b:Bool)(p:PA)(a:Addr):Prop:=a=p.a\/(b=true/\a=p.d)
theorem aJ(h:bR w=some o):w=some (.kept o):=by
 induction w with
 |none=>cases h
 |some x=>rcases x with _|_<;>first|(cases h;done)|(injection h with h;rw [h])
section
variable{y y' RB:Wd}{L L':Look}
theorem Up.refl(y:Wd):Up y y:=⟨λU U h=>h,λU U h=>h⟩
theorem Up.trans(u:Up y y')(v:Up y' RB):Up y RB:=⟨λU U h=>v.j _ _ (u.j _ _ h),λU U h=>v.p _ _ (u.p _ _ h)⟩
section
variable(e: ∀a o,L a=some o->L' a=some o)
include e
theorem qT.mono{c x xs}(h:qT L c x xs):qT L' c x xs:=by induction h with|mk a b c=>exact .mk (e _ _ a) b c
theorem RA.mono{d m}(h:RA L d m):RA L' d m:=by induction h with|mk a=>exact .mk (e _ _ a) ‹_› ‹_› ‹_› ‹_› ‹_› ‹_›
theorem C1.mono{d m}(h:C1 L d m):C1 L' d m:=by induction h with|mk a=>exact .mk (e _ _ a) ‹_› ‹_› ‹_› ‹_›
theorem gx.mono{c a d m}(h:gx L c a d m):gx L' c a d m:=by induction h with|mk a b c d f g=>exact .mk (e _ _ a) b c d f (g.mono e)
theorem qU.mono{k x w}(h:qU L k x w):qU L' k x w:=by induction h with|mk a b c d f g=>exact .mk (e _ _ a) b c d (f.mono e) g
theorem jg.mono{q x}(h:jg L q x):jg L' q x:=by induction h with|mk a b c=>exact .mk (e _ _ a) b c
theorem xQ.mono{k x cl ns}(h:xQ L k x cl ns):xQ L' k x cl ns:=by induction h with|mk a b c d f g h i j k l m n=>exact .mk (e _ _ a) b c d f g h i j k l (m.mono e) n
end
mutual
theorem az.mono(u:Up y y'): ∀v {x},az y v x->az y' v x
 | .none,_,h=>h
 | .bool _,_,h=>h
 | .int _,_,h=>h
 | .str _,_,h=>h
 | .bytes _,_,h=>h
 | .tup vs,_,h=>h.imp λU h=>⟨h.1.mono u.j,aB.mono u vs h.2⟩
 | .list vs,_,h=>h.imp λU h=>⟨h.1.mono u.j,aB.mono u vs h.2⟩
 | .ref _,_,h=>h.imp λU h=>⟨u.p _ _ h.1,h.2⟩
 | .inst _ fs,_,h=>h.imp λU h=>h.imp λU h=>h.imp λU h=>⟨h.1,h.2.1.mono u.j,h.2.2.1,eN.mono u fs h.2.2.2⟩
 | .ou _ vs,_,h=>h.imp λU h=>h.imp λU h=>⟨h.1.mono u.j,fM.mono u vs h.2⟩
 | .exc _ w,_,h=>h.imp λU h=>⟨h.1.mono u.j,az.mono u w h.2⟩
theorem aB.mono(u:Up y y'): ∀vs {xs},aB y vs xs->aB y' vs xs
 |[],_,h=>h
 |v::vs,_,h=>h.imp λU h=>h.imp λU h=>⟨h.1,az.mono u v h.2.1,aB.mono u vs h.2.2⟩
theorem eN.mono(u:Up y y'): ∀fs {m},eN y fs m->eN y' fs m
 |[],_,h=>h
 |(_,v)::r,_,h=>⟨h.1.imp λU h=>h.imp λU h=>⟨h.1,h.2.1,az.mono u v h.2.2⟩,eN.mono u r h.2⟩
theorem fM.mono(u:Up y y'): ∀vs {ns},fM y cl vs ns->fM y' cl vs ns
 |[],_,h=>h
 |v::vs,_,h=>h.imp λU h=>h.imp λU h=>⟨h.1,h.2.1.imp λU h=>h.imp λU h=>h.imp λU h=>⟨h.1,u.j _ _ h.2.1,h.2.2.1,az.mono u v h.2.2.2⟩,fM.mono u vs h.2.2⟩
end
theorem fN.mono(u:Up y y'): ∀{kvs es},fN P y kvs es->fN P y' kvs es
 |[],_,h=>h
 |(_,v)::_,_,h=>h.imp λU h=>h.imp λU h=>h.imp λU h=>⟨h.1,az.mono u v h.2.1,fN.mono u h.2.2⟩
end
structure St where
 w:abR
 os:acy
structure Cx extends St where
 A:Around
 env:dq
 sc:abL
noncomputable abbrev St.P(S:St):abK:=S.w.params
abbrev St.M(S:St):ab0:=abJ PT S.w
inductive Lk(h:Heap)(a:Addr)(o:Obj):Prop
 |mk {sl}:h.get? a=some {o with slots:=sl}->(o.cls≠ .type "frame"->sl=o.slots)->Lk h a o
def vz(h:Heap)(a:Addr):Ow->Prop
 | .kept o=>h.get? a=some o
 | .held o=>Lk h a o
 |_=> ∃o,h.get? a=some o
inductive TabAt(y:Wd)(h:Heap)(q:Addr×Addr×Str):Prop
 |mk {o ps}:y.W q.2.1=some .tab->y.J q.1=some o->h.IsCode q.1 q.2.1 ps->h.TableAt q.1 q.2.1 ps->(∀pos c,ac1 pos ps.toList=some c->jg y.J q.2.2 c)->TabAt y h q
structure pA(P:abK)(y:Wd)(h:Heap)(x:Ix)(o:cy)(p:PA):Prop where
 f:y.φ x=some p
 a:y.W p.a=some (.at x false)
 d:o.bk=true->y.W p.d=some (.at x true)
 o:dZ P y h o p
structure InvH(S:St)(y:Wd)(ρ:Env)(H:Hp)(s:Shared):Prop where
 own: ∀a x,y.W a=some x->vz s.heap a x
 len: ∀i p,y.φ (.obj i)=some p->i<H.length
 obs: ∀x o,dg ρ H x=some o-> ∃p,pA S.P y s.heap x o p
 base: ∀a o,bq S.P a=some o->y.J a=some o
 tabs: ∀q∈fX,TabAt y s.heap q
 gens:s.gens= #[]
 os:s.os=S.os
noncomputable def Ow.Hl:Ow->Bool| .kept _=>true|_=>false
inductive aY(env:dq)(y:Wd)(h:Heap)(i:Nat):Bool->Option Value->Prop
 |loc {n m}:aU env.scope.names i=some (n,.local)->h.Ns env.locals m->aY env y h i false (m n)
 |qV {n k c w x}:aU env.scope.names i=some (n,k)->cU k=true->env.cells.lookup n=some c->y.W c=some w->(w=.cell i\/w.Hl=true)->h.IsCell c x->aY env y h i w.Hl x
def jh(env:dq)(y:Wd)(h:Heap)(i:Nat):Slot->Prop
 | .empty=>(∃n k,aU env.scope.names i=some (n,k)/\gM k=true)-> ∃x,aY env y h i false x
 | .val v=> ∃x,aY env y h i false (some x)/\az y v x
 | .fix v=> ∃x,aY env y h i true (some x)/\az y v x
 | .own _=> ∃p,y.φ (.own i)=some p/\aY env y h i false (some (.ref p.a))
def lH(env:dq)(h:Heap):Prop:= ∃o,h.get? env.locals=some o/\(env.frame=some env.locals->o.cls=.type "frame")/\ ∃es ep,o.data=.dict es ep/\adn es
theorem zT{o:Obj}(h: ∃es ep,o.data=.dict es ep/\adn es)(vs:Array Value):o.data≠ .fields vs:=λq=>h.elim λes h=>h.elim λep h=>by cases q.symm.trans h.1
inductive kL(W:Addr->Option Ow)(L:Addr):Prop
 |mk {o}:W L=some (.held o)->o.cls=.type "frame"->(∀vs,o.data≠ .fields vs)->kL W L
structure Inv(C:Cx)(y:Wd)(ρ:Env)(H:Hp)(s:Shared):Prop extends InvH C.toSt y ρ H s where
 iK:y.W C.env.locals=some .ns
 vars: ∀i,jh C.env y s.heap i (bh ρ i)
 rl:ρ.length=C.sc.names.length
 loc:lH C.env s.heap
 frames: ∃e0 r,C.A.frames=some (e0::r)/\e0.frame=C.env.frame/\ ∀e∈e0::r,e.scope.kind≠ .module/\ ∃L,e.frame=some L/\((L=C.env.locals/\C.env.frame=some L)\/kL y.W L)
structure Z(C:Cx)where
 y:Wd
 ρ:Env
 H:Hp
 s:Shared
 I:Inv C y ρ H s
noncomputable def Z.re{C:Cx}(z:Z C)(y:Wd)(I:Inv C y z.ρ z.H z.s):Z C:=⟨y,z.ρ,z.H,z.s,I⟩
def dH{C:Cx}(z:Z C)(i:Nat)(v:Value):Prop:= ∃f,aY C.env z.y z.s.heap i f (some v)
structure gy(P:abK)(y:Wd)(h:Heap)(o:cy)(p:PA):Prop where
 n: ∀a,Pl o.bk p a->y.W a=none
 o:dZ P y h o p
noncomputable abbrev Rl(α γ:Type):= ∀C:Cx,Z C->α->γ->Prop
def bK:Rl R Value:=λC z r v=>match r with
 | .val x=>az z.y x v
 | .own o=> ∃p,v=.ref p.a/\gy C.P z.y z.s.heap o p
 | .slot i=>dH z i v
abbrev mR:Rl V Value:=λU z x v=>az z.y x v
abbrev Ll:Rl (List V) (List Value):=λU z x v=>aB z.y x v
abbrev kM:Rl Bool Bool:=λU U a b=>a=b
inductive Ho(y:Wd)(k:Nat)(w:V)(o:Obj):Prop
 |mk {d m x}:o.cls=.ref (cB k)->o.dict=some d->C1 y.J d m->m "what"=some x->az y w x->Ho y k w o
inductive Bv(y:Wd)(h:Heap)(e t:Addr):Prop
 |mk {o ts}:h.get? t=some o->o.data=.fields ts->4<ts.size->y.W t=none->t≠e->Bv y h e t
inductive Bw(y:Wd)(h:Heap)(e:Addr):Value->Prop
 |none:Bw y h e .none
 |at {t}:Bv y h e t->Bw y h e (.ref t)
inductive Bx(y:Wd)(h:Heap)(k:Nat)(w:V):Value->Prop
 |mk {e o vs}:h.get? e=some o->o.data=.fields vs->5<vs.size->Bw y h e (vs.getD 1 .none)->Ho y k w o->y.W e=none->Bx y h k w (.ref e)
inductive cK(y:Wd)(h:Heap)(k:Nat)(w:V):Value->Prop
 |mk {e o vs t}:h.get? e=some o->o.data=.fields vs->5<vs.size->vs[1]?=some (.ref t)->Bv y h e t->Ho y k w o->y.W e=none->cK y h k w (.ref e)
structure Le(y y':Wd):Prop extends Up y y' where
 h: ∀a o,y.W a=some (.held o)->y'.W a=some (.held o)
structure bY{C:Cx}(b:Bool)(z z':Z C):Prop extends Le z.y z'.y where
 v:b=true-> ∀i x,dH z i x->dH z' i x
def Fits(A:Around){α:Type}:Out α->Prop
 | .ok .. =>True
 | .exc .. =>A.handled=none
 |_=>False
structure Po{α γ:Type}{C:Cx}(b:Bool)(rel:Rl α γ)(z:Z C)(out:Out α)(Q:γ->Shared->Prop)(E:Value->Shared->Prop):Prop where
 fits:Fits C.A out
 ok: ∀a z' v,out=.ok a z'.ρ z'.H->bY b z z'->rel C z' a v->Q v z'.s
 exc: ∀k w (z':Z C) v,out=.exc k w z'.ρ z'.H->Le z.y z'.y->Bx z'.y z'.s.heap k w v->E v z'.s
structure Zh(S:St)where
 y:Wd
 H:Hp
 s:Shared
 I:InvH S y [] H s
noncomputable def Ow.mine:Ow->Bool| .ns=>true| .cell _=>true| .at (.own _) _=>true|_=>false
def qY(y:Wd):Prop:= ∀a x,y.W a=some x->x.mine=false
structure DH(S:St)(A:Around)(n:Nat)(y:Wd):Prop where
 bare:qY y
 hd:A.handled=none
 depth:A.depth+3*n<=900
 units:A.units+16*n<=9000
 frames: ∃r,A.frames=some r/\ ∀e∈r,e.scope.kind≠ .module/\ ∃L,e.frame=some L/\kL y.W L
def Callee(y:Wd)(k:Nat)(vs:List V)(x:Value)(xs:List Value):Prop:=
 (x=pq k/\(∃f,x=.ref f)/\aB y vs xs)\/ ∃caps ws,vs=caps++ws/\az y (.ou k caps) x/\aB y ws xs
def Lm(P:abK)(y:Wd)(h:Heap)(r:R)(v:Value):Prop:=match r with
 | .val x=>az y x v
 | .own o=> ∃p,v=.ref p.a/\gy P y h o p
 | .slot _=>False
noncomputable def Told:Res->Prop| .ok .. =>True| .exc .. =>True|_=>False
structure lg{S:St}(z:Zh S)(res:Res)(R:ab6->Shared->Prop):Prop where
 fits:Told res
 ok: ∀r (z':Zh S) v,res=.ok r z'.H->Le z.y z'.y->qY z'.y->Lm S.P z'.y z'.s.heap r v->R (.ok (.ret v)) z'.s
 exc: ∀k w (z':Zh S) v,res=.exc k w z'.H->Le z.y z'.y->qY z'.y->Bx z'.y z'.s.heap k w v->R (.error v) z'.s
def Bi(cf:CF):Prop:= ∀o vs H,cf (1000+o) vs H=La o vs H
structure M1(S:St)(n:Nat)(cf:CF):Prop where
 bi:Bi cf
 ok: ∀A (z:Zh S),DH S A n z.y-> ∀k vs x xs R,Callee z.y k vs x xs->lg z (cf k vs z.H) R->codeAny S.M A (.call x ⟨xs,[]⟩) R z.s
def By:NameKind->NameKind->Prop
 | .local,k=>k=.local
 | .cell,k=>cU k=true
 | .free,k=>cU k=true
 |a,b=>a=b
structure FE(env:dq)(sc:abL):Prop where
 kind:env.scope.kind=.function
 gl:env.globals=abN
 bl:env.builtins=abW
 len:env.scope.names.length=sc.names.length
 kinds: ∀i n k,aU sc.names i=some (n,k)-> ∃k',aU env.scope.names i=some (n,k')/\By k k'
 once:dK sc.names=true
 odd:s8 sc.names=true
 DI:dK env.scope.names=true
def rE(env:dq)(sc:abL):Prop:=(∃i n,aU sc.names i=some (n,oy))-> ∃c P,env.code=.ref c/\(c,P,env.qual++ei "<lambda>")∈fX
structure Kx(sc:abL)(hb:Bool)where
 C:Cx
 n:Nat
 cf:CF
 hs:C.sc=sc
 fe:FE C.env C.sc
 depth:C.A.depth+3*n<=900
 units:C.A.units+16*n<=9000
 lam:rE C.env C.sc
 hcf:M1 C.toSt n cf
 hh:hb=false->C.A.handled=none
noncomputable abbrev Kx.A{sc hb}(k:Kx sc hb):Around:=k.C.A
noncomputable abbrev Kx.M{sc hb}(k:Kx sc hb):ab0:=k.C.M
def Ref{α γ:Type}(b:Bool)(rel:Rl α γ)(sc:abL)(hb:Bool)(code:dq->Sem γ)(m:M α):Prop:= ∀(k:Kx sc hb) (z:Z k.C) Q E,Po b rel z (m k.cf z.ρ z.H) Q E->wpAny k.M k.A (code k.C.env) Q E z.s
abbrev aV(sc:abL)(hb:Bool)(e:bp)(m:M R):Prop:=Ref true bK sc hb (eval e) m
end MP
end Mine.Lake
end
section
namespace Mine.Lake
namespace MP
open PySem PySem.W PyProof.Rows
section
variable{ι α:Type}{x:Option ι}{f:ι->Option α}{v:α}{r:Option α}{G:Prop}{b c:Bool}
theorem aQ(h:bb x f=some v)(k: ∀i,x=some i->f i=some v->G):G:=by
 induction x with
 |none=>exact nomatch h
 |some i=>exact k i rfl h
theorem gq(h:oo x f r=some v)(k: ∀i,x=some i->f i=some v->G)(k':r=some v->G):G:=by
 induction x with
 |none=>exact k' h
 |some i=>exact k i rfl h
theorem cN(h:gg b r=some v)(k:b=true->r=some v->G):G:=by
 induction b with
 |true=>exact k rfl h
 |false=>exact nomatch h
theorem gz(h:band b c=true)(k:b=true->c=true->G):G:=by
 induction b with
 |true=>exact k rfl h
 |false=>exact nomatch h
theorem bw{a:α}{P:Prop}(h:none=some a):P:=nomatch h
theorem bI{P:Prop}(h:false=true):P:=nomatch h
end
theorem tw{h:Heap}(x:h.Ns a m)(y:h.Ns a m'):m=m':=by
 refine ae λaA=>?_;obtain ⟨o,es,ep,h1,h2,_,h3⟩:=x;obtain ⟨o',es',HX,k1,k2,_,k3⟩:=y;refine aA ?_;cases ag (h1.symm.trans k1);cases h2.symm.trans k2;exact funext λn=>(h3 n).symm.trans (k3 n)
theorem DJ{h:Heap}(a:h.IsCell c x)(b:h.IsCell c y):x=y:=by
 obtain ⟨o,h1,h2⟩:=a;obtain ⟨o',k1,k2⟩:=b;cases ag (h1.symm.trans k1);cases h2.symm.trans k2;rfl
theorem nf(h:x≠"frame"):FV x≠ .type "frame":=λe=>h (by injection e)
theorem BA{o:Obj}(e:o.cls=.type x)(h:x≠"frame"):o.cls≠ .type "frame":=e▸nf h
theorem Zd{o:Obj}(e:o.cls=.ref a):o.cls≠ .type "frame":=e▸nofun
theorem Lk.exact(x:Lk h a o)(n:o.cls≠ .type "frame"):h.get? a=some o:=by
 induction x with|mk e f=>rw [f n] at e;exact e
section
variable{y y' RB:Wd}{h h':Heap}{P:abK}{o:cy}{p:PA}{env:dq}{i:Nat}
theorem dZ.keep(x:dZ P y h o p)(u:Up y y')(k: ∀a ob,Pl o.bk p a->ob.cls≠ .type "frame"->h.get? a=some ob->h'.get? a=some ob):dZ P y' h' o p:=by
 induction o with
 |list vs=>exact x.imp λU x=>x.imp λU x=>⟨k _ _ (.inl rfl) (nf (by decide)) x.1,aB.mono u _ x.2⟩
 |dict kvs=>exact x.imp λU x=>x.imp λU x=>x.imp λU x=>⟨k _ _ (.inl rfl) (BA x.2.1.1 (by decide)) x.1,x.2.1,x.2.2.1,fN.mono u x.2.2.2.1,x.2.2.2.2⟩
 |inst c fs=>
  exact x.imp λU x=>⟨by
   cases x.1 with
   |mk a b c d f g=>induction g with
    |mk g1 g2 g3=>exact .mk (k _ _ (.inl rfl) (Zd b) a) b c d f (.mk (k _ _ (.inr ⟨rfl,rfl⟩) (BA g2 (by decide)) g1) g2 g3 ‹_› ‹_› ‹_› ‹_›),x.2.1,eN.mono u _ x.2.2⟩
 |jS b=>exact x.imp λU x=>x.imp λU x=>⟨k _ _ (.inl rfl) (BA x.2.1 (by decide)) x.1,x.2⟩
theorem dZ.pl(x:dZ P y h o p)(q:Pl o.bk p a): ∃ob,h.get? a=some ob/\ob.cls≠ .type "frame":=by
 induction o with
 |list vs=>rcases q with rfl|q;exact x.elim λU x=>x.elim λU x=>⟨_,x.1,nf (by decide)⟩;exact bI q.1
 |dict kvs=>rcases q with rfl|q;exact x.elim λU x=>x.elim λU x=>x.elim λU x=>⟨_,x.1,BA x.2.1.1 (by decide)⟩;exact bI q.1
 |inst c fs=>
  obtain ⟨m,x,_⟩:=x;induction x with
  |mk a b c d f g=>induction g with
   |mk g1 g2 g3=>rcases q with rfl|⟨_,rfl⟩;exact ⟨_,a,Zd b⟩;exact ⟨_,g1,BA g2 (by decide)⟩
 |jS b=>rcases q with rfl|q;exact x.elim λU x=>x.elim λU x=>⟨_,x.1,BA x.2.1 (by decide)⟩;exact bI q.1
theorem Le.refl(y:Wd):Le y y:=⟨Up.refl y,λU U h=>h⟩
theorem Le.trans(u:Le y y')(v:Le y' RB):Le y RB:=⟨u.toUp.trans v.toUp,λU U h=>v.h _ _ (u.h _ _ h)⟩
theorem fc{α β:Type}{o:Option (α×β)}{a a':α}{b b':β}(h:o=some (a,b))(h':o=some (a',b')):a=a'/\b=b':=by cases h;cases h';exact ⟨rfl,rfl⟩
theorem aY.fn(a:aY env y h i f x)(b:aY env y h i g x'):f=g/\x=x':=by
 induction a with
 |loc n1 m1=>induction b with
  |loc n2 m2=>rw [(fc n1 n2).1,tw m1 m2];exact ⟨rfl,rfl⟩
  |qV n2 k2=>rw [<-(fc n1 n2).2] at k2;exact nomatch k2
 |qV n1 k1 c1 w1 _ h1=>induction b with
  |loc n2 m2=>rw [(fc n1 n2).2] at k1;exact nomatch k1
  |qV n2 k2 c2 w2 _ h2=>
   rw [(fc n1 n2).1] at c1;obtain rfl:=ag (c1.symm.trans c2);exact ⟨congrArg Ow.Hl (ag (w1.symm.trans w2)),DJ h1 h2⟩
end
section
variable{C:Cx}{b:Bool}{z z' rH:Z C}
theorem bY.refl(b:Bool)(z:Z C):bY b z z:=⟨Le.refl _,λU U U h=>h⟩
theorem bY.trans(u:bY b z z')(v:bY b z' rH):bY b z rH:=⟨u.toLe.trans v.toLe,λq i x h=>v.v q i x (u.v q i x h)⟩
theorem bY.lax(u:bY true z z'):bY b z z':=⟨u.toLe,λU=>u.v rfl⟩
theorem Z.qZ(z:Z C)(h:z.y.J a=some o):z.s.heap.get? a=some o:=z.I.own a _ (aJ h)
theorem Z.base(z:Z C)(h:bq C.P a=some o):z.s.heap.get? a=some o:=z.qZ (z.I.base a o h)
theorem Z.no(z:Z C)(h:z.s.heap.get? a=none):z.y.W a=none:=by
 cases q:z.y.W a with
 |none=>rfl
 |some x=>
  have w:=z.I.own a x q;induction x with
  |kept o=>exact bw (h.symm.trans w)
  |held o=>induction w with|mk e=>exact bw (h.symm.trans e)
  |_=>induction w with|intro o e=>exact bw (h.symm.trans e)
theorem Z.var(z:Z C)(h:vf (bh z.ρ i)=some x): ∃f v,aY C.env z.y z.s.heap i f (some v)/\az z.y x v:=by
 have w:=z.I.vars i;revert h w;cases bh z.ρ i with
 |val u=>intro h w;cases h;exact ⟨_,w⟩
 |fix u=>intro h w;cases h;exact ⟨_,w⟩
 |_=>intro h;exact bw (h)
theorem mS(hr:bK C z r v)(h:plain r z.ρ=some x):az z.y x v:=by
 induction r with
 |val u=>cases ag (h);exact hr
 |own o=>exact bw (h)
 |slot i=>
  obtain ⟨f,u,a,b⟩:=z.var h;cases ag ((a.fn hr.choose_spec).2);exact b
theorem gO(h:sW s=some o):s=.own o:=by
 induction s with
 |own w=>cases ag (h);rfl
 |_=>exact nomatch h
theorem Z.own(z:Z C)(h:sW (bh z.ρ i)=some o): ∃p,z.y.φ (.own i)=some p/\aY C.env z.y z.s.heap i false (some (.ref p.a)):=by
 have w:=z.I.vars i;rw [gO h] at w;exact w
theorem HY(h:Ld v=some a):v=.ref a:=by rcases v with _|_<;>first|(cases ag (h);rfl)|exact bw h
theorem DK(hr:bK C z r v)(h:Vf r=some ix)(ho:dg z.ρ z.H ix=some o): ∃p,z.y.φ ix=some p/\v=.ref p.a:=by
 induction r with
 |val u=>exact aQ h λa e h=>by cases ag (h);rw [HY e] at hr;exact hr
 |own o=>exact nomatch h
 |slot i=>cases ag (h);exact (z.own ho).imp λp q=>⟨q.1,(q.2.fn hr.choose_spec).2|>ag|>Eq.symm⟩
theorem Z.ob(z:Z C)(h:dg z.ρ z.H ix=some o)(hp:z.y.φ ix=some p):pA C.P z.y z.s.heap ix o p:=by
 obtain ⟨q,w⟩:=z.I.obs ix o h;cases ag (w.f.symm.trans hp);exact w
end
section
variable{cf:CF}(B:Bi cf){d e:D}{ρ:MP.Env}{H:Hp}
theorem gi:oB (gg b (some (V.int z))) (λv=>Out.ok (R.val v) ρ H)=oB (bb (gg b (some z)) λz=>some (.val (.int z))) λv=>.ok v ρ H:=by rcases b with _|_<;>rfl
theorem kr{a b c d e:Out MP.R}(h:a=b)(g:c=d)(x:b=c)(y:d=e):a=e:=h.trans (x.trans (g.trans y))
include B
theorem lI(o:Nat)(i j:Int):vh o i j cf ρ H=oB (Rc o i j) λv=>.ok (.val v) ρ H:=by
 unfold vh;rw [B];show gr (rB (Rc o i j) _) ρ=_;cases Rc o i j<;>rfl
theorem M3(op:Op)(a b:Option Int)(G:Option MP.R):Hi (Zb op) (λo=>Hi a (λi=>oB b λj=>vh o i j cf ρ H) (oB (oo a (λi=>bb b λj=>bb (intOp op i j) λz=>some (.val (.int z))) G) λv=>.ok v ρ H)) (oB (oo a (λi=>bb b λj=>bb (intOp op i j) λz=>some (.val (.int z))) G) λv=>.ok v ρ H)=
  oB (oo a (λi=>bb b λj=>bb (intOp op i j) λz=>some (.val (.int z))) G) λv=>.ok v ρ H:=by
 induction a with
 |none=>rcases op with _|_<;>rfl
 |some i=>induction b with
  |none=>rcases op with _|_<;>rfl
  |some j=>induction op with
   |mul=>exact kr (lI B 0 i j) (gi (ρ:=ρ) (H:=H) (b:=lD i j) (z:=i*j)) (by kernel_rfl) (by kernel_rfl)
   |fdiv=>exact kr (lI B 1 i j) (gi (ρ:=ρ) (H:=H) (b:=jZ j) (z:=ib i j)) (by kernel_rfl) (by kernel_rfl)
   |mod=>exact kr (lI B 2 i j) (gi (ρ:=ρ) (H:=H) (b:=jZ j) (z:=rx i j)) (by kernel_rfl) (by kernel_rfl)
   |pow=>exact kr (lI B 3 i j) (gi (ρ:=ρ) (H:=H) (b:=rt i j) (z:=i^j.toNat)) (by kernel_rfl) (by kernel_rfl)
   |_=>rfl
theorem HZ(op:Op):MI op d e cf ρ H=oB (Di op d e) λv=>.ok v ρ H:=M3 B op d.i e.i _
theorem BB:xH d cf ρ H=oB (sU d) λv=>.ok v ρ H:=by
 unfold xH sU;cases d.l with
 |none=>rfl
 |some l=>
  show gr (cf (1000+10) [.list l] H) ρ=oB (oZ l) _;rw [B];show gr (rB (oZ l) _) ρ=_;cases oZ l<;>rfl
theorem zU(op:MJ):sR op d e cf ρ H=oB (Dl op d e) λb=>.ok b ρ H:=by
 have k: ∀o i j,((vh o i j cf ρ H).bind λr ρ H=>oB (Dm r) λb=>.ok b ρ H)=((oB (Rc o i j) λv=>.ok (.val v) ρ H).bind λr ρ H=>oB (Dm r) λb=>.ok b ρ H):=λo i j=>by (rewrite [lI B];try with_reducible rfl)
 unfold sR;rcases op with _|_<;>first
  |rfl
  |(simp only [Dl,WI,WJ,Ve,Qy]
    cases d.i with
    |none=>rfl
    |some i=>cases e.i with
     |none=>rfl
     |some j=>exact k _ i j)
end
theorem Fits.left{m:Out α}{f:α->MP.Env->Hp->Out β}(h:Fits A (m.bind f)):Fits A m:=by
 induction m with
 |ok=>trivial
 |_=>exact h
section
variable{α β γ δ:Type}{C:Cx}{b:Bool}{rel:Rl α γ}{z z':Z C}{Q:γ->Shared->Prop}{E:Value->Shared->Prop}
theorem Po.ok'(w:Po b rel z out Q E)(e:out=.ok a ρ H)(z':Z C)(A:bY b z z')(hr:rel C z' a v)(e1:autoParam (z'.ρ=ρ) hZ._auto_4)(e2:autoParam (z'.H=H) hZ._auto_4)(e3:autoParam (z'.s=s) hZ._auto_4):Q v s:=by
 subst e1 e2 e3;exact w.ok a z' v e A hr
theorem Po.step{m:Out α}{rel:Rl β γ}(w:Po b rel z (m.bind f) Q E)(e:m=.ok a z'.ρ z'.H)(A:bY b z z'):Po b rel z' (f a z'.ρ z'.H) Q E:=by
 subst e;exact ⟨w.fits,λc rH v e h=>w.ok c rH v e (A.trans h),λk u rH v e h=>w.exc k u rH v e (A.toLe.trans h)⟩
theorem Po.mH(w:Po b rel z out Q E)(A:bY b z z'):Po b rel z' out Q E:=
 ⟨w.fits,λc rH v e h=>w.ok c rH v e (A.trans h),λk u rH v e h=>w.exc k u rH v e (A.toLe.trans h)⟩
theorem Po.first{rel:Rl β γ}{K:δ->Shared->Prop}(w:Po b rel z (m.bind f) Q E)(hb:b=true->b1=true)
  (hK: ∀a (z':Z C) x,Po b rel z' (f a z'.ρ z'.H) Q E->bY b z z'->dN C z' a x->K x z'.s):Po b1 dN z m K E:=
 ⟨w.fits.left,λa z' x e A hr=>have A':bY b z z':=⟨A.toLe,λq=>A.v (hb q)⟩;hK a z' x (w.step e A') A' hr,λk u z' v e h=>w.exc k u z' v (by rw [e];rfl) h⟩
theorem Po.opt{x:Option ι}{f:ι->Out α}{G:Prop}(w:Po b rel z (oB x f) Q E)(h: ∀i,x=some i->Po b rel z (f i) Q E->G):G:=by
 induction x with
 |none=>exact w.fits.elim
 |some i=>exact h i rfl w
theorem Po.WV{x:Option ι}{f:ι->Out β}{g:β->MP.Env->Hp->Out α}{G:Prop}(w:Po b rel z ((oB x f).bind g) Q E)(h: ∀i,x=some i->Po b rel z ((f i).bind g) Q E->G):G:=by
 induction x with
 |none=>exact w.fits.elim
 |some i=>exact h i rfl w
theorem Po.cond{G:Prop}(w:Po b rel z (cond g x y) Q E)(h:g=true->Po b rel z x Q E->G)(h':g=false->Po b rel z y Q E->G):G:=by
 induction g with
 |true=>exact h rfl w
 |false=>exact h' rfl w
theorem Po.guard{G:Prop}(w:Po b rel z (bZ g out) Q E)(h:g=true->Po b rel z out Q E->G):G:=by
 induction g with
 |true=>exact h rfl w
 |false=>exact w.fits.elim
end
section
variable{α β γ δ ε ζ:Type}{sc:abL}{hb b:Bool}{k:Kx sc hb}{z:Z k.C}{c1:dq->Sem γ}{m1:M α}{dN:Rl α γ}{Q:ζ->Shared->Prop}{E:Value->Shared->Prop}{K:γ->Shared->Prop}
theorem one{f:α->MP.Env->Hp->Out ε}(h:Ref b1 dN sc hb c1 m1)(w:Po b rel z ((m1 k.cf z.ρ z.H).bind f) Q E)
  (hK: ∀a (z':Z k.C) x,Po b rel z' (f a z'.ρ z'.H) Q E->bY b z z'->dN k.C z' a x->K x z'.s) (q:autoParam (b=true->b1=true) Mine.Lake.MP.kiA._auto_1):wpAny k.M k.A (c1 k.C.env) K E z.s:=h k z K E (w.first q hK)
theorem Ref.bad:Ref b rel sc hb c1 cF:=λU U U U w=>w.fits.elim
theorem Ref.eqm(h:Ref b rel sc hb c1 m)(e: ∀cf,Bi cf-> ∀ρ H,m' cf ρ H=m cf ρ H):Ref b rel sc hb c1 m':=λk z Q E w=>h k z Q E (e _ k.hcf.bi _ _▸w)
theorem Ref.code(h:Ref b rel sc hb c1 m)(e: ∀(C:Cx) Q E s,wpAny C.M C.A (c1 C.env) Q E s->wpAny C.M C.A (c2 C.env) Q E s):Ref b rel sc hb c2 m:=λk z Q E w=>e k.C Q E _ (h k z Q E w)
end
end MP
end Mine.Lake
end
section
namespace Mine.Lake
namespace MP
open PySem PySem.W PyProof.Rows
noncomputable def Ow.BC:Ow->Bool| .kept _=>true| .tab=>true|_=>false
theorem Ow.M4{w:Ow}(h:w.Hl=true):w.BC=true:=by rcases w with _|_<;>first|rfl|exact bI h
noncomputable def Ow.WW:Ow->Bool| .held _=>true|_=>false
noncomputable def Ow.isAt:Ow->Bool| .at .. =>true|_=>false
def Hk(h h':Heap)(a:Addr):Prop:= ∀o,h.get? a=some o->h'.get? a=some o
theorem vz.keep(w:vz h a x)(k:Hk h h' a):vz h' a x:=by
 induction x with
 |kept o=>exact k _ w
 |held o=>induction w with|mk e f=>exact .mk (k _ e) f
 |_=>exact w.imp λU e=>k _ e
theorem zV(x:h.Ns a m)(k:Hk h h' a):h'.Ns a m:=let ⟨o,es,ep,e,r⟩:=x;⟨o,es,ep,k o e,r⟩
theorem TabAt.keep(t:TabAt y h q)(u:Up y y')(k1:Hk h h' q.1)(k2:Hk h h' q.2.1)(e:y'.W q.2.1=some .tab):TabAt y' h' q:=by
 induction t with
 |mk a b c d f=>
  refine .mk e (u.j _ _ b) ?_ ⟨d.1.imp λU d=>d.imp λU d=>⟨k1 _ d.1,d.2⟩,k2 _ d.2⟩ λp c h=>(f p c h).mono u.j;refine ae λaA=>?_;obtain ⟨o,vs,file,tf,flags,tg,WX,text,tt,op,c1,c2,c3,c4,c5,c6,c7,c8,c9⟩:=c;refine aA ?_;exact ⟨o,vs,file,tf,flags,tg,WX,text,tt,op,k1 _ c1,c2,c3,c4,c5,c6,c7,k2 _ c8,c9⟩
section
variable{env:dq}{y y':Wd}{h h':Heap}{i:Nat}
theorem aY.keep(v:aY env y h i f x)(kn:Hk h h' env.locals)(kc: ∀c w,y.W c=some w->(w=.cell i\/w.Hl=true)->y'.W c=some w/\Hk h h' c):aY env y' h' i f x:=by
 induction v with
 |loc n m=>exact .loc n (zV m kn)
 |qV n k c w d g=>exact .qV n k c (kc _ _ w d).1 d (g.imp λU g=>⟨(kc _ _ w d).2 _ g.1,g.2⟩)
theorem jh.keep(v:jh env y h i x)(u:Up y y')(kv: ∀f x,aY env y h i f x->aY env y' h' i f x)(e:y'.φ (.own i)=y.φ (.own i)):jh env y' h' i x:=by
 induction x with
 |empty=>exact λq=>(v q).imp λU w=>kv _ _ w
 |val x=>exact v.imp λU w=>⟨kv _ _ w.1,w.2.mono u⟩
 |fix x=>exact v.imp λU w=>⟨kv _ _ w.1,w.2.mono u⟩
 |own o=>exact v.imp λU w=>⟨e.trans w.1,kv _ _ w.2⟩
end
section
variable{C:Cx}{y y':Wd}{ρ ρ':MP.Env}{H H':Hp}{s s':Shared}
structure xq(C:Cx)(y y':Wd)(ρ ρ':MP.Env)(H H':Hp)(s s':Shared)(X:Addr->Prop):Prop where
 u:Up y y'
 keep: ∀a x,y.W a=some x-> ¬X a->y'.W a=some x/\Hk s.heap s'.heap a
 own: ∀a x,y'.W a=some x->(y.W a=some x/\ ¬X a)\/vz s'.heap a x
 BC: ∀a x,X a->y.W a=some x->x.BC=false
 len: ∀i p,y'.φ (.obj i)=some p->i<H'.length
 obs: ∀x o,dg ρ' H' x=some o->(dg ρ H x=some o/\y'.φ x=y.φ x/\ ∀p,y.φ x=some p-> ∀a,Pl o.bk p a-> ¬X a)\/ ∃p,pA C.P y' s'.heap x o p
 gens:s'.gens=s.gens:=by rfl
 os:s'.os=s.os:=by rfl
variable{X:Addr->Prop}
theorem InvH.upd'(I:InvH C.toSt y ρ H s)(u:Up y y')(keep: ∀a x,y.W a=some x-> ¬X a->y'.W a=some x/\Hk s.heap s'.heap a)(own: ∀a x,y'.W a=some x->(y.W a=some x/\ ¬X a)\/vz s'.heap a x)(len: ∀i p,y'.φ (.obj i)=some p->i<H'.length)
  (obs: ∀x o,dg ρ' H' x=some o->(dg ρ H x=some o/\y'.φ x=y.φ x/\ ∀p,y.φ x=some p-> ∀a,Pl o.bk p a-> ¬X a)\/ ∃p,pA C.P y' s'.heap x o p) (gens:s'.gens=s.gens) (os:s'.os=s.os) (tabs: ∀q∈fX,TabAt y' s'.heap q):InvH C.toSt y' ρ' H' s' where
 own a x e:=(own a x e).elim (λq=>(I.own a x q.1).keep (keep a x q.1 q.2).2) id
 len:=len
 obs x o e:=(obs x o e).elim (λ⟨q1,q2,q3⟩=>(I.obs x o q1).imp λp w=>⟨q2.trans w.f,(keep _ _ w.a (q3 p w.f _ (.inl rfl))).1,λd=>(keep _ _ (w.d d) (q3 p w.f _ (.inr ⟨d,rfl⟩))).1,w.o.keep u λa ob pl U=>by
  rcases pl with rfl|⟨d,rfl⟩
  ·exact (keep _ _ w.a (q3 p w.f _ (.inl rfl))).2 ob
  ·exact (keep _ _ (w.d d) (q3 p w.f _ (.inr ⟨d,rfl⟩))).2 ob⟩) id
 base a o e:=u.j _ _ (I.base a o e)
 tabs:=tabs
 gens:=gens.trans I.gens
 os:=os.trans I.os
theorem InvH.upd(I:InvH C.toSt y ρ H s)(K:xq C y y' ρ ρ' H H' s s' X):InvH C.toSt y' ρ' H' s':=
 I.upd' K.u K.keep K.own K.len K.obs K.gens K.os λq hq=>by
  have t:=I.tabs q hq;have n: ∀{a x},y.W a=some x->x.BC=true-> ¬X a:=λe h x=>mn ((K.BC _ _ x e).symm.trans h);cases id t with
  |mk a b=>
   have k2:=K.keep _ _ a (n a rfl);exact t.keep K.u (K.keep _ _ (aJ b) (n (aJ b) rfl)).2 k2.2 k2.1
theorem Inv.upd(I:Inv C y ρ H s)(K:xq C y y' ρ ρ' H H' s s' X)(ns:y'.W C.env.locals=some .ns)(vars: ∀i,jh C.env y' s'.heap i (bh ρ' i))(rl:ρ'.length=ρ.length)(loc:lH C.env s'.heap)(fr: ∀L,kL y.W L->kL y'.W L):Inv C y' ρ' H' s' where
 toInvH:=I.toInvH.upd K
 iK:=ns
 vars:=vars
 rl:=rl.trans I.rl
 loc:=loc
 frames:=I.frames.imp λU x=>x.imp λU x=>⟨x.1,x.2.1,λe he=>⟨(x.2.2 e he).1,(x.2.2 e he).2.imp λU x=>⟨x.1,x.2.imp id (fr _)⟩⟩⟩
theorem xq.vk(K:xq C y y' ρ ρ' H H' s s' X)(hn: ¬X C.env.locals)(iK:y.W C.env.locals=some .ns)(hc: ∀c,X c->y.W c≠some (.cell i))(v:aY C.env y s.heap i f x):aY C.env y' s'.heap i f x:=
 v.keep (K.keep _ _ iK hn).2 λc w e d=>K.keep _ _ e λhx=>d.elim (λd=>hc c hx (d▸e)) λd=>mn ((K.BC _ _ hx e).symm.trans (Ow.M4 d))
theorem Inv.objs(I:Inv C y ρ H s)(K:xq C y y' ρ ρ' H H' s s' X)(hX: ∀a x,X a->y.W a=some x->x.isAt=true)(fr: ∀L,kL y.W L->kL y'.W L)(rl:ρ'.length=ρ.length)
  (vars: ∀i,(bh ρ' i=bh ρ i/\y'.φ (.own i)=y.φ (.own i))\/((∀f x,aY C.env y s.heap i f x->aY C.env y' s'.heap i f x)->jh C.env y' s'.heap i (bh ρ' i))):
  Inv C y' ρ' H' s'/\ ∀i f x,aY C.env y s.heap i f x->aY C.env y' s'.heap i f x:=by
 have no: ∀{a w},y.W a=some w->w.isAt=false-> ¬X a:=λe n x=>mn (n.symm.trans (hX _ _ x e));have hn: ¬X C.env.locals:=no I.iK rfl;have vk: ∀i f x,aY C.env y s.heap i f x->aY C.env y' s'.heap i f x:=λi f x=>K.vk hn I.iK λc hx e=>no e rfl hx;have kn:=K.keep _ _ I.iK hn;exact ⟨I.upd K kn.1 (λi=>(vars i).elim (λq=>q.1▸(I.vars i).keep K.u (vk i) q.2) λq=>q (vk i)) rl (I.loc.imp λU l=>⟨kn.2 _ l.1,l.2⟩) fr,vk⟩
end
section
variable{C:Cx}(z:Z C)
theorem Z.more(u:Le z.y y')(keep: ∀a x,z.y.W a=some x->y'.W a=some x/\Hk z.s.heap s'.heap a)(own: ∀a x,y'.W a=some x->z.y.W a=some x\/vz s'.heap a x)(e:y'.φ=z.y.φ)
  (gens:autoParam (s'.gens=z.s.gens) hZ._auto_4) (os:autoParam (s'.os=z.s.os) hZ._auto_4): ∃I',bY true z ⟨y',z.ρ,z.H,s',I'⟩:=by
 have K:xq C z.y y' z.ρ z.ρ z.H z.H z.s s' (λU=>False):=⟨u.toUp,λa x h U=>keep a x h,λa x h=>(own a x h).imp (λq=>⟨q,id⟩) id,λU U h=>h.elim,λi p h=>z.I.len i p (e▸h),λx o h=>.inl ⟨h,by rw [e],λU U U U=>id⟩,gens,os⟩;obtain ⟨I',vk⟩:=z.I.objs K (λU U h=>h.elim) (λU q=>by induction q with|mk a b c=>exact .mk (u.h _ _ a) b c) rfl λi=>.inl ⟨rfl,by rw [e]⟩;exact ⟨I',u,λU i x=>λ⟨f,v⟩=>⟨f,vk i f _ v⟩⟩
def Keeps(h h':Heap):Prop:= ∀b o,h.get? b=some o->h'.get? b=some o
theorem Keeps.refl(h:Heap):Keeps h h:=λU U e=>e
theorem Keeps.trans(x:Keeps h h')(y:Keeps h' h''):Keeps h h'':=λb o e=>y b o (x b o e)
theorem Keeps.push(h:Heap)(o:Obj):Keeps h (h.push o):=λU U e=>cn o e
theorem Z.iR(k:Keeps z.s.heap h')(t:Nat): ∃I',bY true z ⟨z.y,z.ρ,z.H,{z.s with heap:=h',toks:=t},I'⟩:=
 z.more (Le.refl _) (λa U e=>⟨e,k a⟩) (λU U e=>.inl e) rfl
theorem aN(h:Heap):h.get? h.objs.size=none:=by
 cases q:h.get? h.objs.size with
 |none=>rfl
 |some o=>exact absurd (ik q) (vy _)
end
noncomputable def Wd.set(y:Wd)(a:Addr)(x:Option Ow):Wd:=⟨λb=>if b=a then x else y.W b,y.φ⟩
theorem Wd.cC(y:Wd)(a:Addr)(x:Option Ow):(y.set a x).W a=x:=if_pos rfl
theorem Wd.cA(y:Wd)(x:Option Ow)(h:b≠a):(y.set a x).W b=y.W b:=if_neg h
theorem Wd.ne{y:Wd}(h:y.W a=none)(e:y.W b=some x):b≠a:=λq=>by rw [q,h] at e;exact bw (e)
theorem Le.set(h:y.W a=none):Le y (y.set a x):=
 ⟨⟨λb o e=>by (rewrite [Wd.J,y.cA x (Wd.ne h (aJ e))];try with_reducible rfl);exact e,λU U e=>e⟩,λb o e=>(y.cA x (Wd.ne h e)).trans e⟩
section
variable{C:Cx}(z:Z C)
theorem Z.H6(o:Obj)(hf:o.isFreed=false)(t:Nat): ∃y' I',bY true z ⟨y',z.ρ,z.H,{z.s with heap:=z.s.heap.push o,toks:=t},I'⟩/\y'.J z.s.heap.objs.size=some o:=by
 have hn:=z.no (aN z.s.heap);obtain ⟨I',A⟩:=z.more (s':={z.s with heap:=z.s.heap.push o,toks:=t}) (Le.set (x:=some (.kept o)) hn) (λa x e=>⟨(z.y.cA _ (Wd.ne hn e)).trans e,Keeps.push _ _ a⟩) (λa x e=>by
  by_cases q:a=z.s.heap.objs.size
  ·subst q;rw [z.y.cC] at e;cases ag (e);exact .inr (da _ hf)
  ·rw [z.y.cA _ q] at e;exact .inl e) rfl
 exact ⟨_,I',A,congrArg bR (z.y.cC _ _)⟩
noncomputable def Wd.hold(y:Wd)(h:Heap)(fp:List Addr):Wd:=⟨λb=>if b∈fp then (h.get? b).map .held else y.W b,y.φ⟩
noncomputable def Wd.drop(y:Wd)(fp:List Addr):Wd:=⟨λb=>if b∈fp then none else y.W b,y.φ⟩
theorem Wd.oG{y:Wd}(q:b∈fp):(y.hold h fp).W b=(h.get? b).map .held:=if_pos q
theorem Wd.fq{y:Wd}(q:b∉fp):(y.hold h fp).W b=y.W b:=if_neg q
theorem Wd.fh{y:Wd}(q:b∈fp):(y.drop fp).W b=none:=if_pos q
theorem Wd.fy{y:Wd}(q:b∉fp):(y.drop fp).W b=y.W b:=if_neg q
theorem Z.hold(hF: ∀b∈fp,z.y.W b=none): ∃I',bY true z (z.re (z.y.hold z.s.heap fp) I'):=by
 have out: ∀{a x},z.y.W a=some x->a∉fp:=λe q=>by rw [hF _ q] at e;exact bw (e)
 refine z.more ⟨⟨λa o e=>?_,λU U e=>e⟩,λa o e=>(Wd.fq (out e)).trans e⟩ (λa x e=>⟨(Wd.fq (out e)).trans e,λU e=>e⟩) (λa x e=>?_) rfl
 ·show bR _=_;rw [Wd.fq (out (aJ e))];exact e
 ·by_cases q:a∈fp
  ·rw [Wd.oG q] at e;obtain ⟨o,e1,rfl⟩:=eR.mp e;exact .inr (.mk e1 λU=>rfl)
  ·rw [Wd.fq q] at e;exact .inl e
structure n8(y y':Wd):Prop where
 e:y'.φ=y.φ
 j:y'.J=y.J
 n: ∀a,y.W a=none->y'.W a=none
 c: ∀a i,y.W a=some (.cell i)->y'.W a=some (.cell i)
theorem Z.Ln{I':Inv C (z.y.hold z.s.heap fp) z.ρ z.H z.s}(hF: ∀b∈fp,z.y.W b=none)(hl: ∀b∈fp, ∃o,z.s.heap.get? b=some o)(A:bY b (z.re _ I') z'):
  ∃RC,bY b z (z'.re (z'.y.drop fp) RC)/\n8 z'.y (z'.y.drop fp)/\ ∀b∈fp, ∀o,z.s.heap.get? b=some o->Lk z'.s.heap b o:=by
 have iS:=z.hold hF;have I1:=iS.1;have A1:=iS.2;have hh: ∀b∈fp, ∃o,z.s.heap.get? b=some o/\z'.y.W b=some (.held o):=λb hb=>(hl b hb).imp λo q=>⟨q,A.h _ _ ((Wd.oG hb).trans (by rw [q];rfl))⟩;have out: ∀{a x},z'.y.W a=some x->x.WW=false->a∉fp:=λe n q=>(hh _ q).elim λo q=>by cases ag (e.symm.trans q.2);exact bI n.symm
 have jj:(z'.y.drop fp).J=z'.y.J:=funext λa=>by
  by_cases q:a∈fp
  ·obtain ⟨o,_,e⟩:=hh a q;show bR _=bR _;rw [Wd.fh q,e];rfl
  ·exact congrArg bR (Wd.fy q)
 have L:n8 z'.y (z'.y.drop fp):=⟨rfl,jj,λa e=>by by_cases q:a∈fp;exact Wd.fh q;exact (Wd.fy q).trans e,λa i e=>(Wd.fy (out e rfl)).trans e⟩;have K:xq C z'.y (z'.y.drop fp) z'.ρ z'.ρ z'.H z'.H z'.s z'.s (λU=>U∈fp):=⟨⟨λa o e=>jj▸e,λU U e=>e⟩,λa x e q=>⟨(Wd.fy q).trans e,λU e=>e⟩,λa x e=>by
   by_cases q:a∈fp
   ·rw [Wd.fh q] at e;exact bw (e)
   ·rw [Wd.fy q] at e;exact .inl ⟨e,q⟩,λa x q e=>by obtain ⟨o,_,e'⟩:=hh a q;rw [e] at e';cases ag (e');rfl,z'.I.len,λx o e=>.inl ⟨e,rfl,λp hp a pl=>by
   have w:=z'.ob e hp;rcases pl with rfl|⟨d,rfl⟩
   ·exact out w.a rfl
   ·exact out (w.d d) rfl⟩,rfl,rfl⟩
 have vk: ∀{i f x},aY C.env z'.y z'.s.heap i f x->aY C.env (z'.y.drop fp) z'.s.heap i f x:=λ{i f x} v=>K.vk (out z'.I.iK rfl) z'.I.iK (λc hc e=>out e rfl hc) v;refine ⟨{toInvH:=z'.I.toInvH.upd K,iK:=(Wd.fy (out z'.I.iK rfl)).trans z'.I.iK,vars:=λi=>(z'.I.vars i).keep K.u (λU U=>vk) rfl,rl:=z'.I.rl,loc:=z'.I.loc,frames:=?_},⟨⟨⟨λa o e=>jj▸A.j a o (A1.j a o e),λi p e=>A.p i p e⟩,λa o e=>?_⟩,λq i x h=>(A.v q i x (A1.v rfl i x h)).imp λU v=>vk v⟩,L,λb hb o e=>?_⟩
 ·exact z.I.frames.imp λe0 x=>x.imp λr x=>⟨x.1,x.2.1,λe he=>⟨(x.2.2 e he).1,(x.2.2 e he).2.imp λL q=>⟨q.1,q.2.imp id λq=>by induction q with|mk a b c=>exact .mk ((Wd.fy λm=>by rw [hF _ m] at a;exact bw (a)).trans (A.h _ _ (A1.h _ _ a))) b c⟩⟩⟩
 ·exact (Wd.fy (λq=>by rw [hF _ q] at e;exact bw (e))).trans (A.h a o (A1.h a o e))
 ·obtain ⟨o',e',w⟩:=hh b hb;cases ag (e.symm.trans e');exact z'.I.own _ _ w
theorem Z.drop{I':Inv C (z.y.hold z.s.heap fp) z.ρ z.H z.s}(hF: ∀b∈fp,z.y.W b=none)(hl: ∀b∈fp, ∃o,z.s.heap.get? b=some o/\o.cls≠ .type "frame")(A:bY b (z.re _ I') z'):
  ∃RC,bY b z (z'.re (z'.y.drop fp) RC)/\n8 z'.y (z'.y.drop fp)/\ ∀b∈fp,Hk z.s.heap z'.s.heap b:=by
 refine ae λaA=>?_;obtain ⟨RC,A',L,k⟩:=z.Ln hF (λb hb=>(hl b hb).imp λo q=>q.1) A;refine aA ?_;exact ⟨RC,A',L,λb hb o e=>(k b hb o e).exact ((hl b hb).elim λo' q=>by cases ag (e.symm.trans q.1);exact q.2)⟩
end
def tB{α γ:Type}(rel:Rl α γ):Prop:= ∀(C:Cx) (z:Z C) a x,rel C z a x-> ∃y I,bY true z (z.re y I)/\ ∀z':Z C,bY true (z.re y I) z'-> ∃y' I',bY true z (z'.re y' I')/\n8 z'.y y'/\rel C (z'.re y' I') a x
def lJ{α γ:Type}(rel:Rl α γ):Prop:= ∀(C:Cx) (z:Z C) y I a x,n8 z.y y->rel C z a x->rel C (z.re y I) a x
theorem n8.refl(y:Wd):n8 y y:=⟨rfl,rfl,λU h=>h,λU U h=>h⟩
theorem n8.up(l:n8 y y'):Up y y':=⟨λU U e=>l.j▸e,λU U e=>l.e▸e⟩
theorem RD(h: ∀(C:Cx) (z z':Z C) a x,bY true z z'->rel C z a x->rel C z' a x):tB rel:=
 λU z U U r=>⟨z.y,z.I,bY.refl _ z,λz' A=>⟨z'.y,z'.I,A,n8.refl _,h _ _ _ _ _ A r⟩⟩
theorem mT:tB mR:=RD λU U U U U A r=>r.mono A.toUp
theorem ji:lJ mR:=λU U U U U U l r=>r.mono l.up
theorem zW:lJ Ll:=λU U U U U U l r=>r.mono l.up
theorem M8:lJ kM:=λU U U U U U U r=>r
noncomputable def eO(b:Bool)(p:PA):List Addr:=cond b [p.a,p.d] [p.a]
theorem cD:a∈eO b p↔Pl b p a:=by rcases b with _|_<;>simp [eO,Pl]
theorem aY.WY(l:n8 y y')(v:aY env y h i f x):aY env y' h i f x:=
 v.keep (λU e=>e) λc w e d=>by
  refine ⟨?_,λU e=>e⟩;rcases d with rfl|d
  ·exact l.c _ _ e
  ·induction w with
   |kept o=>exact aJ ((congrFun l.j c).trans (congrArg bR e))
   |_=>exact bI d
theorem gy.keep{o:cy}(w:gy P y h o p)(u:Up y y')(n: ∀a,Pl o.bk p a->y'.W a=none/\Hk h h' a):gy P y' h' o p:=⟨λa q=>(n a q).1,w.o.keep u λa ob q U e=>(n a q).2 ob e⟩
theorem fH:lJ bK:=λC z y I r x l hr=>by
 induction r with
 |val v=>exact ji C z y I v x l hr
 |slot i=>exact hr.imp λU v=>v.WY l
 |own o=>exact hr.imp λp w=>⟨w.1,w.2.keep l.up λa q=>⟨l.n a (w.2.n a q),λU e=>e⟩⟩
theorem dm:tB bK:=λC z r x hr=>by
 induction r with
 |val v=>exact mT C z v x hr
 |slot i=>exact ⟨z.y,z.I,bY.refl _ z,λz' A=>⟨z'.y,z'.I,A,n8.refl _,A.v rfl i x hr⟩⟩
 |own o=>
  refine ae λaA=>?_;obtain ⟨p,e,w⟩:=hr;have hF: ∀a∈eO o.bk p,z.y.W a=none:=λa q=>w.n a (cD.mp q);obtain ⟨I,A1⟩:=z.hold hF;refine aA ?_;refine ⟨_,I,A1,λz' A=>?_⟩;refine ae λb8=>?_;obtain ⟨I',A2,l,k⟩:=z.drop hF (λa q=>w.o.pl (cD.mp q)) A;refine b8 ?_;exact ⟨_,I',A2,l,p,e,w.keep A2.toUp λa q=>⟨Wd.fh (cD.mpr q),k a (cD.mpr q)⟩⟩
section
variable{α β γ δ ε ζ:Type}{sc:abL}{hb b:Bool}{k:Kx sc hb}{z:Z k.C}{c1:dq->Sem γ}{m1:M α}{c2:dq->Sem δ}{m2:M β}{dN:Rl α γ}{mU:Rl β δ}{rel:Rl ε ζ}{Q:ζ->Shared->Prop}{E:Value->Shared->Prop}
theorem snd{K:δ->Shared->Prop}(hd:tB dN)(ls:lJ mU)(h2:Ref true mU sc hb c2 m2)(r1:dN k.C z a x)(w:Po b rel z ((m2 k.cf z.ρ z.H).bind f) Q E)
  (hK: ∀a2 (z':Z k.C) x2,Po b rel z' (f a2 z'.ρ z'.H) Q E->bY b z z'->dN k.C z' a x->mU k.C z' a2 x2->K x2 z'.s):wpAny k.M k.A (c2 k.C.env) K E z.s:=by
 refine ae λaA=>?_;obtain ⟨y,I,A1,back⟩:=hd _ z a x r1;refine aA ?_;refine h2 k (z.re y I) K E ⟨w.fits.left,λa2 z' x2 e A r2=>?_,λc u z' v e l=>w.exc c u z' v (by rw [show m2 k.cf z.ρ z.H=_ from e];rfl) (A1.toLe.trans l)⟩;refine ae λb8=>?_;obtain ⟨y',I',A2,l,r⟩:=back z' A;refine b8 ?_;exact hK a2 (z'.re y' I') x2 (Po.step (z':=z'.re y' I') w e A2.lax) A2.lax r (ls _ z' _ _ _ _ l r2)
theorem two{f:α->β->MP.Env->Hp->Out ε}{K:γ->δ->Shared->Prop}(hd:tB dN)(ls:lJ mU)(h1:Ref true dN sc hb c1 m1)(h2:Ref true mU sc hb c2 m2)(w:Po b rel z ((m1 k.cf z.ρ z.H).bind λa ρ H=>(m2 k.cf ρ H).bind (f a)) Q E)
  (hK: ∀a a2 (z':Z k.C) x x2,Po b rel z' (f a a2 z'.ρ z'.H) Q E->bY b z z'->dN k.C z' a x->mU k.C z' a2 x2->K x x2 z'.s):wpAny k.M k.A (c1 k.C.env) (λx s=>wpAny k.M k.A (c2 k.C.env) (K x) E s) E z.s:=
 one h1 w (λa z1 x w1 A1 r1=>snd hd ls h2 r1 w1 λa2 z' x2 w2 A2 r r2=>hK a a2 z' x x2 w2 (A1.trans A2) r r2) λU=>rfl
end
end MP
end Mine.Lake
end
section
namespace Mine.Lake
namespace MP
open PySem PySem.W PyProof.Rows
section
variable{α β:Type}{l r:List α}{i j:Nat}{x y:α}
theorem cL:aU l i=l[i]?:=by
 induction l generalizing i with
 |nil=>rfl
 |cons a l ih=>rcases i with _|_;rfl;exact ih
theorem xR:put l i x=l.set i x:=by
 induction l generalizing i with
 |nil=>rfl
 |cons a l ih=>rcases i with _|_;rfl;exact congrArg (λU=>a::U) ih
theorem ie:(put l i x).length=l.length:=by rw [xR,List.length_set]
theorem pB(h:j≠i):aU (put l i x) j=aU l j:=by rw [cL,cL,xR,List.getElem?_set_ne h.symm]
theorem lK(h:i<l.length):aU (put l i x) i=some x:=by rw [cL,xR,List.getElem?_set_self h]
theorem dz(h:aU l i=some y):i<l.length:=by rw [cL] at h;exact (List.getElem?_eq_some_iff.mp h).1
theorem jk(h:l.length<=i):aU l i=none:=by rw [cL];exact List.getElem?_eq_none h
theorem lM(h:i<l.length): ∃y,aU l i=some y:=⟨_,cL.trans (List.getElem?_eq_getElem h)⟩
theorem DL:aU (l++[x]) l.length=some x:=by rw [cL];exact List.getElem?_concat_length
theorem DM(h:aU (l++[x]) i=some y):aU l i=some y\/(i=l.length/\y=x):=by
 rcases Nat.lt_trichotomy i l.length with q|q|q
 ·rw [cL,List.getElem?_append_left q, <-cL] at h;exact .inl h
 ·subst q;rw [DL] at h;exact .inr ⟨rfl,(ag h).symm⟩
 ·rw [jk (by rw [dk];exact q)] at h;exact bw (h)
end
section
variable{ρ:MP.Env}{i j:Nat}{x:Slot}
theorem bD(h:j≠i):bh (put ρ i x) j=bh ρ j:=by unfold bh;rw [pB h]
theorem bu(h:i<ρ.length):bh (put ρ i x) i=x:=by unfold bh;rw [lK h]
theorem lN(h:bh ρ i=.own o):i<ρ.length:=(Nat.lt_or_ge i ρ.length).elim id λq=>by unfold bh at h;rw [jk q] at h;cases h
end
theorem ig(h:sl a=sl b):a=b:=by cases a;cases b;simpa [sl] using h
theorem b9(x:Str):strOf (sl x)=x:=ig (by simp [sl,strOf])
theorem lP:bP a b=decide (a=b):=by
 induction a generalizing b with
 |nil=>rcases b with _|_<;>rfl
 |cons x a ih=>induction b with
  |nil=>rfl
  |cons y b=>
   show cond (bo x y) (bP a b) false=_;rw [ih];cases q:bo x y with
   |true=>rw [cq q];simp
   |false=>simp [Ap q]
theorem dP(h:bP a b=true):a=b:=of_decide_eq_true (lP▸h)
theorem lQ(a:List Nat):bP a a=true:=by rw [lP];exact decide_eq_true rfl
theorem kN(h:bP a b=false):a≠b:=of_decide_eq_false (lP▸h)
theorem vA(h:cond a b c=true):(a=true/\b=true)\/(a=false/\c=true):=by rcases a with _|_;exact .inr ⟨rfl,h⟩;exact .inl ⟨rfl,h⟩
theorem n9(h:cond a b false=true):a=true/\b=true:=by rcases a with _|_;exact bI h;exact ⟨rfl,h⟩
theorem oh(h:cond a false b=true):a=false/\b=true:=by rcases a with _|_;exact ⟨rfl,h⟩;exact bI h
theorem rI(h:gg a b=some x):a=true/\b=some x:=cN h λa b=>⟨a,b⟩
section
variable{names:List (Str×NameKind)}{n:Str}{x:List Nat}{k k':NameKind}{i j d:Nat}
theorem DN(h:DC x i names=some j): ∃d n k,j=i+d/\aU names d=some (n,k)/\sl n=x/\gM k=true:=by
 induction names generalizing i with
 |nil=>exact bw (h)
 |cons a r ih=>
  change cond (bP (sl a.1) x) (gg (gM a.2) (some i)) _=_ at h;cases q:bP (sl a.1) x with
  |true=>rw [q] at h;have c:=rI h;cases ag (c.2);exact ⟨0,a.1,a.2,rfl,rfl,dP q,c.1⟩
  |false=>(rewrite [q] at h;try with_reducible rfl);obtain ⟨d,n,k,e,r⟩:=ih h;exact ⟨d+1,n,k,by (rewrite [e,fw,nr 1];try with_reducible rfl),r⟩
theorem cV{x:Str}(h:iQ sc x=some i): ∃k,aU sc.names i=some (x,k)/\gM k=true:=by
 refine ae λaA=>?_;obtain ⟨d,n,k,a,b,c,e⟩:=DN h;refine aA ?_;rw [fb] at a;subst a;rw [ig c] at b;exact ⟨k,b,e⟩
theorem eV(h:aU names d=some (n,k))(hn:nameIn x names=false):sl n≠x:=by
 induction names generalizing d with
 |nil=>exact bw (h)
 |cons a r ih=>
  change cond (bP (sl a.1) x) true (nameIn x r)=false at hn;cases q:bP (sl a.1) x with
  |true=>rw [q] at hn;cases hn
  |false=>
   rw [q] at hn;induction d with
   |zero=>cases ag (h);exact kN q
   |succ d=>exact ih h hn
theorem rJ(h:dK (a::names)=true):nameIn (sl a.1) names=false/\dK names=true:=oh h
theorem pC(ho:dK names=true)(h:aU names d=some (n,k)):names.lookup n=some k:=by
 induction names generalizing d with
 |nil=>exact bw (h)
 |cons a r ih=>
  obtain ⟨q,ho⟩:=rJ ho;rw [mx];induction d with
  |zero=>cases ag (h);rw [beq_self_eq_true]
  |succ d=>rw [beq_eq_false_iff_ne.mpr λe=>eV (names:=r) h q (congrArg sl e)];exact ih ho h
theorem jl(ho:dK names=true)(h1:aU names i=some (n,k))(h2:aU names j=some (n,k')):i=j:=by
 induction names generalizing i j with
 |nil=>exact bw (h1)
 |cons a r ih=>
  obtain ⟨q,ho⟩:=rJ ho;cases i with
  |zero=>cases j with
   |zero=>rfl
   |succ j=>cases h1;exact (eV (names:=r) h2 q rfl).elim
  |succ i=>induction j with
   |zero=>cases h2;exact (eV (names:=r) h1 q rfl).elim
   |succ j=>rw [ih ho h1 h2]
theorem BD{x:Str}(h:pn (sl x) names=true): ∃d,aU names d=some (x,.globalImplicit):=by
 induction names with
 |nil=>exact bI h
 |cons a r ih=>
  obtain ⟨n,k⟩:=a;rcases vA h with ⟨q,h⟩|⟨_,h⟩
  ·rcases k with _|_<;>first|exact ⟨0,by rw [<-ig (dP q)];rfl⟩|exact bI h
  ·obtain ⟨d,h⟩:=ih h;exact ⟨d+1,h⟩
end
section
variable{env:dq}{sc:abL}(F:FE env sc){i:Nat}{x:Str}{k:NameKind}(h:aU sc.names i=some (x,k))
include F h
theorem FE.at: ∃k',aU env.scope.names i=some (x,k')/\By k k'/\env.kindOf x=some k':=(F.kinds i x k h).imp λU a=>⟨a.1,a.2,pC F.DI a.1⟩
theorem FE.Ze:(x==("__debug__":Str))=false/\(x==("__classdict__":Str))=false:=by
 have o:=oh F.odd;exact ⟨beq_eq_false_iff_ne.mpr λe=>eV h o.1 (congrArg sl e),beq_eq_false_iff_ne.mpr λe=>eV h (oh o.2).1 (congrArg sl e)⟩
end
section
variable{C:Cx}{z:Z C}{i:Nat}{x:Str}{k:NameKind}
theorem dH.cell{f v n}(V:aY C.env y h i f v)(hn:aU C.env.scope.names i=some (n,k)):(k=.local/\ ∃m,h.Ns C.env.locals m/\m n=v)\/(cU k=true/\ ∃c,C.env.cells.lookup n=some c/\h.IsCell c v):=by
 induction V with
 |loc n1 m=>obtain ⟨rfl,rfl⟩:=fc hn n1;exact .inl ⟨rfl,_,m,rfl⟩
 |qV n1 k1 c1 _ _ g=>obtain ⟨rfl,rfl⟩:=fc hn n1;exact .inr ⟨k1,_,c1,g⟩
theorem pD(F:FE C.env C.sc)(h:aU C.sc.names i=some (x,k))(hv:dH z i v)(hq:Q v z.s):ax C.M C.A (eval (.Name x pos) C.env) Q E z.s:=by
 refine ae λaA=>?_;obtain ⟨k',a,_,c⟩:=F.at h;obtain ⟨d1,d2⟩:=F.Ze h;refine aA ?_;refine PySem.wpAny_Name ?_ d1;rcases dH.cell hv.choose_spec a with ⟨rfl,m,m1,m2⟩|⟨q,c',l,g⟩
 ·exact wpAny_loadName_local F.kind c m1 m2 hq
 ·rcases k' with _|_<;>first|exact wpAny_loadName_cell F.kind c l g hq|exact wpAny_loadName_free F.kind c l g hq d2|exact bI q
theorem DO(h:iQ sc x=some i):aV sc hb (.Name x pos) (aa i):=by
 intro K z Q E w;refine ae λaA=>?_;obtain ⟨k,hk,_⟩:=cV h;refine aA ?_;rw [<-K.hs] at hk;have slot: ∀{v:V},vf (bh z.ρ i)=some v->Po true bK z (.ok (.val v) z.ρ z.H) Q E->wpAny K.M K.A (eval (.Name x pos) K.C.env) Q E z.s:=λq w=>by
  obtain ⟨f,u,a,b⟩:=z.var q;exact Kl<|pD K.fe hk ⟨f,a⟩ (w.ok' rfl z (bY.refl _ z) b)
 unfold aa at w;cases q:bh z.ρ i with
 |empty=>rw [q] at w;exact w.fits.elim
 |val v=>rw [q] at w;exact slot (by rw [q];rfl) w
 |fix v=>rw [q] at w;exact slot (by rw [q];rfl) w
 |own o=>
  rw [q] at w;refine ae λb8=>?_;obtain ⟨p,a,b⟩:=z.own (i:=i) (by rw [q];rfl);refine b8 ?_;exact Kl<|pD K.fe hk ⟨_,b⟩ (w.ok' rfl z (bY.refl _ z) ⟨_,b⟩)
end
end MP
end Mine.Lake
end
section
namespace Mine.Lake
namespace MP
open PySem PySem.W PyProof.Rows
noncomputable def Wd.keep(y:Wd)(h:Heap)(fp:List Addr):Wd:=⟨λb=>if b∈fp then (h.get? b).map .kept else y.W b,y.φ⟩
theorem Wd.zX{y:Wd}(q:b∈fp):(y.keep h fp).W b=(h.get? b).map .kept:=if_pos q
theorem Wd.gQ{y:Wd}(q:b∉fp):(y.keep h fp).W b=y.W b:=if_neg q
theorem xU{y:Wd}(q:b∈fp)(e:h.get? b=some o):(y.keep h fp).J b=some o:=by
 show bR _=_;rw [Wd.zX q,e];rfl
theorem H7(x:dZ P y h o p)(u:Up y (y.keep h (eO o.bk p)))(hd:Dh o=false):az (y.keep h (eO o.bk p)) (HQ o) (.ref p.a):=by
 induction o with
 |dict=>exact nomatch hd
 |jS=>exact nomatch hd
 |list vs=>obtain ⟨xs,ep,e,r⟩:=x;exact ⟨_,.mk (xU bj e) rfl rfl,r.mono u⟩
 |inst c fs=>
  refine ae λaA=>?_;obtain ⟨m,e,d,r⟩:=x;refine aA ?_;refine ⟨_,p.d,m,rfl,?_,d,r.mono u⟩;induction e with|mk a b c d f g=>induction g with
   |mk g1=>exact .mk (xU bj a) b c d f (.mk (xU (cb _ bj) g1) ‹_› ‹_› ‹_› ‹_› ‹_› ‹_›)
noncomputable def Ow.gM:Ow->Bool| .at (.own _) _=>true|_=>false
section
variable{C:Cx}(z:Z C)
theorem Z.freeze(hO:dZ C.P z.y z.s.heap o p)(hd:Dh o=false)(hA: ∀a∈eO o.bk p, ∀x,z.y.W a=some x->x.gM=true)(hW: ∀a∈eO o.bk p, ∀j d,z.y.W a=some (.at (.own j) d)->sW (bh ρ' j)=none)(rl:ρ'.length=z.ρ.length)
  (hv: ∀j,bh ρ' j=bh z.ρ j\/(bh ρ' j=.val (HQ o)/\aY C.env z.y z.s.heap j false (some (.ref p.a)))): ∃y I,bY true z ⟨y,ρ',z.H,z.s,I⟩/\az y (HQ o) (.ref p.a)/\ ∀b,b∉eO o.bk p->y.W b=z.y.W b:=by
 have out: ∀{a x},z.y.W a=some x->x.gM=false->a∉eO o.bk p:=λe n q=>mn (n.symm.trans (hA _ q _ e));have u:Up z.y (z.y.keep z.s.heap (eO o.bk p)):=⟨λa o e=>(congrArg bR (Wd.gQ (out (aJ e) rfl))).trans e,λU U e=>e⟩;have r:=H7 hO u hd;have K:xq C z.y _ z.ρ ρ' z.H z.H z.s z.s (λU=>U∈eO o.bk p):=⟨u,λa x e q=>⟨(Wd.gQ q).trans e,λU e=>e⟩,λa x e=>by
   by_cases q:a∈eO o.bk p
   ·rw [Wd.zX q] at e;obtain ⟨ob,e',rfl⟩:=eR.mp e;exact .inr e'
   ·rw [Wd.gQ q] at e;exact .inl ⟨e,q⟩,λa x q e=>(by
    have h:=hA a q x e;rcases x with _|_<;>first|rfl|exact bI h),z.I.len,λx o' e=>.inl (by
   have e':dg z.ρ z.H x=some o':=by
    induction x with
    |obj i=>exact e
    |own j=>exact (hv j).elim (λq=>(congrArg sW q).symm.trans e) λq=>nomatch (congrArg sW q.1).symm.trans e
   refine ⟨e',rfl,λp' hp a pl hx=>?_⟩;have w:=z.ob e' hp;have t: ∃d,z.y.W a=some (.at x d):=by rcases pl with rfl|⟨d,rfl⟩;exact ⟨_,w.a⟩;exact ⟨_,w.d d⟩
   obtain ⟨d,t⟩:=t;induction x with
   |obj i=>cases hA a hx _ t
   |own j=>exact bw ((hW a hx j d t).symm.trans e)),rfl,rfl⟩
 obtain ⟨I,vk⟩:=z.I.objs K (λa x q e=>by
  have h:=hA a q x e;rcases x with _|_<;>first|rfl|exact bI h) (λL q=>by induction q with|mk a b c=>exact .mk ((Wd.gQ (out a rfl)).trans a) b c) rl λj=>(hv j).imp (λq=>⟨q,rfl⟩) λq vk=>(by rw [q.1];exact ⟨_,vk _ _ q.2,r⟩)
 exact ⟨_,I,⟨⟨u,λa o e=>(Wd.gQ (out e rfl)).trans e⟩,λU i x=>λ⟨f,v⟩=>⟨f,vk i f _ v⟩⟩,r,λb q=>Wd.gQ q⟩
end
structure Cl(y y':Wd)(x:Ix)(b:Bool)(p:PA):Prop where
 up: ∀{a w},y.W a=some w->y'.W a=some w
 new: ∀{a w},y'.W a=some w->y.W a=some w\/(y.W a=none/\Pl b p a/\ ∃d,w=.at x d)
 φ: ∀{u},u≠x->y'.φ u=y.φ u
 f:y'.φ x=some p
 a:y'.W p.a=some (.at x false)
 d:b=true->p.d≠p.a->y'.W p.d=some (.at x true)
noncomputable def BE:Ix->Ix->Bool| .obj i,.obj j=>bo i j| .own i,.own j=>bo i j|_,_=>false
theorem H8(h:BE u x=true):u=x:=by
 rcases u with _|_<;>rcases x with _|_<;>first|exact congrArg _ (cq h)|exact bI h
theorem BF(x:Ix):BE x x=true:=by rcases x with _|_<;>exact lL _
section
variable{P:abK}{y y':Wd}{x:Ix}{b:Bool}{p:PA}{h:Heap}{o:cy}
theorem Cl.make(n: ∀a,Pl b p a->y.W a=none): ∃y',Cl y y' x b p:=by
 refine ⟨⟨λa=>if a=p.a then some (.at x false) else if b=true/\a=p.d then some (.at x true) else y.W a,λu=>cond (BE u x) (some p) (y.φ u)⟩,λ{a w} e=>?_,λ{a w} e=>?_,λ{u} q=>?_,?_,if_pos rfl,λh1 h2=>(if_neg h2).trans (if_pos ⟨h1,rfl⟩)⟩
 ·exact (if_neg λq=>by rw [q,n _ (.inl rfl)] at e;exact bw (e)).trans ((if_neg λq=>by rw [n _ (.inr q)] at e;exact bw (e)).trans e)
 ·by_cases n1:a=p.a
  ·cases ag ((if_pos n1).symm.trans e);exact .inr ⟨n _ (.inl n1),.inl n1,_,rfl⟩
  ·have e:=(if_neg n1).symm.trans e;by_cases n2:b=true/\a=p.d
   ·cases ag ((if_pos n2).symm.trans e);exact .inr ⟨n _ (.inr n2),.inr n2,_,rfl⟩
   ·exact .inl ((if_neg n2).symm.trans e)
 ·show cond (BE u x) _ _=_;cases h:BE u x with
  |true=>exact (q (H8 h)).elim
  |false=>rfl
 ·show cond (BE x x) _ _=_;rw [BF];rfl
theorem Cl.le(c:Cl y y' x b p)(n: ∀i q,y.φ (.obj i)=some q->Ix.obj i≠x):Le y y':=⟨⟨λa o e=>congrArg bR (c.up (aJ e)),λi q e=>(c.φ (n i q e)).trans e⟩,λa o e=>c.up e⟩
theorem Cl.ob(c:Cl y y' x o.bk p)(u:Up y y')(w:gy P y h o p):pA P y' h x o p:=by
 refine ⟨c.f,c.a,λi=>c.d i ?_,w.o.keep u λU U U U e=>e⟩;induction o with
 |inst k fs=>obtain ⟨m,x,_⟩:=w.o;induction x with|mk a b c d f=>exact f
 |_=>exact bI i
end
section
variable{C:Cx}(z:Z C)
theorem Z.share(w:gy C.P z.y z.s.heap o p): ∃y I,bY true z ⟨y,z.ρ,z.H++[o],z.s,I⟩/\y.φ (.obj z.H.length)=some p:=by
 obtain ⟨y,c⟩:=Cl.make (x:=.obj z.H.length) w.n;have hn: ∀i q,z.y.φ (.obj i)=some q->Ix.obj i≠ .obj z.H.length:=λi q e h=>by rcases h with _|_;exact vy _ (z.I.len _ _ e)
 have l:=c.le hn;have K:xq C z.y y z.ρ z.ρ z.H (z.H++[o]) z.s z.s (λU=>False):=⟨l.toUp,λa x e U=>⟨c.up e,λU e=>e⟩,λa x e=>(c.new e).imp (λe=>⟨e,id⟩) λq=>by
   obtain ⟨_,q,d,rfl⟩:=q;exact (w.o.pl q).imp λU e=>e.1,λU U h=>h.elim,λi q e=>by
   rw [dk];by_cases h:i=z.H.length
   ·exact h▸km _
   ·exact lj (z.I.len i q ((c.φ λq=>h (by injection q)).symm.trans e)),λx o' e=>by
   induction x with
   |own j=>exact .inl ⟨e,c.φ nofun,λU U U U=>id⟩
   |obj i=>
    rcases DM e with e|⟨rfl,rfl⟩
    ·obtain ⟨q,hq⟩:=z.I.obs (.obj i) o' e;exact .inl ⟨e,c.φ (hn i q hq.f),λU U U U=>id⟩
    ·exact .inr ⟨p,c.ob l.toUp w⟩,rfl,rfl⟩
 obtain ⟨I,vk⟩:=z.I.objs K (λU U h=>h.elim) (λL q=>by induction q with|mk a b d=>exact .mk (c.up a) b d) rfl λj=>.inl ⟨rfl,c.φ nofun⟩;exact ⟨y,I,⟨l,λU i x=>λ⟨f,v⟩=>⟨f,vk i f _ v⟩⟩,c.f⟩
end
section
variable{C:Cx}{z:Z C}{b:Bool}{Q E:Value->Shared->Prop}{cf:CF}{r:R}{v:Value}
theorem H9(w:gy C.P z.y z.s.heap o p)(W:Po b mR z (Rb o z.ρ z.H) Q E):Q (.ref p.a) z.s:=by
 have none: ∀a∈eO o.bk p, ∀x,z.y.W a=some x->False:=λa q x e=>nomatch (w.n a (cD.mp q)).symm.trans e;refine W.cond (λU W=>?_) λhd W=>?_
 ·obtain ⟨y,I,A,e⟩:=z.share w;exact W.ok' rfl ⟨y,z.ρ,_,z.s,I⟩ A.lax ⟨p,e,rfl⟩
 ·obtain ⟨y,I,A,r,_⟩:=z.freeze w.o hd (λa q x e=>(none a q x e).elim) (λa q j d e=>(none a q _ e).elim) rfl λj=>.inl rfl;exact W.ok' rfl ⟨y,z.ρ,_,z.s,I⟩ A.lax r
theorem vB(hv:dH z i v)(e:bh z.ρ i=.own o)(hd:Dh o=false): ∃y I,bY true z ⟨y,put z.ρ i (.val (HQ o)),z.H,z.s,I⟩/\az y (HQ o) v/\ ∀b,z.y.W b=none->y.W b=none:=by
 obtain ⟨p,hp,hb⟩:=z.own (i:=i) (o:=o) (by rw [e];rfl);cases ag ((hb.fn hv.choose_spec).2);have w:=z.ob (ix:=.own i) (o:=o) (by (rewrite [dg,e];try with_reducible rfl);rfl) hp;have t: ∀a∈eO o.bk p, ∃d,z.y.W a=some (.at (.own i) d):=λa q=>by rcases cD.mp q with rfl|⟨d,rfl⟩;exact ⟨_,w.a⟩;exact ⟨_,w.d d⟩
 have lt:=lN e;obtain ⟨y,I,A,r,n⟩:=z.freeze (ρ':=put z.ρ i (.val (HQ o))) w.o hd (λa q x e'=>by obtain ⟨d,t⟩:=t a q;cases ag (t.symm.trans e');rfl) (λa q j d e'=>by obtain ⟨d,t⟩:=t a q;cases ag (t.symm.trans e');rw [bu lt];rfl) ie λj=>(by
  by_cases q:j=i
  ·subst q;exact .inr ⟨bu lt,hb⟩
  ·exact .inl (bD q))
 exact ⟨y,I,A,r,λb h=>(n b λq=>by obtain ⟨d,t⟩:=t b q;exact bw (h.symm.trans t)).trans h⟩
theorem jD(hr:bK C z r v)(w:Po b mR z (qM r cf z.ρ z.H) Q E):Q v z.s:=by
 induction r with
 |val x=>exact w.ok' rfl z (bY.refl _ z) hr
 |own o=>obtain ⟨p,rfl,hO⟩:=hr;exact H9 hO w
 |slot i=>
  have w:Po b mR z (HR i (bh z.ρ i) z.ρ z.H) Q E:=w;have slot:=λx (q:vf (bh z.ρ i)=some x)=>mS (r:=.slot i) hr q;revert w slot;cases q:bh z.ρ i with
  |empty=>exact λw U=>w.fits.elim
  |val y=>exact λw s=>w.ok' rfl z (bY.refl _ z) (s y rfl)
  |fix y=>exact λw s=>w.ok' rfl z (bY.refl _ z) (s y rfl)
  |own o=>exact λw U=>w.cond (λU w=>w.fits.elim) λhd w=>(by obtain ⟨y,I,A,h,_⟩:=vB hr q hd;exact w.ok' rfl ⟨y,_,z.H,z.s,I⟩ A.lax h)
end
section
variable{sc:abL}{hb:Bool}{code:dq->Sem Value}{m:M R}
theorem Ref.qM(h:Ref true bK sc hb code m):Ref true mR sc hb code (oY m):=λU U U U w=>one h w λU U U w U hr=>jD hr w
theorem Ref.plain(h:Ref true bK sc hb code m):Ref true mR sc hb code (fE m):=λk z Q E w=>
 one h w λU z' U w U hr=>w.opt λx e w=>w.ok' rfl z' (bY.refl _ z') (mS hr e)
end
end MP
end Mine.Lake
end
section
namespace Mine.Lake
namespace MP
open PySem PySem.W PyProof.Rows
section
open Sem
theorem BG(M:ab0)(Γ:Ctx)(E:Value->Pos->Shared->Prop)(p:Pos)(s:Shared){m}(hn:s.heap.Ns a m)(name:Str)(v:Value)(Q:Unit->Pos->Shared->Prop)
  (hQ: ∀h',h'.Ns a (λx=>if x=name then some v else m x)->gd a s.heap h'->(∀od,s.heap.get? a=some od-> ∃od',h'.get? a=some od'/\od'.cls=od.cls)->
   Q () p {s with heap:=h',toks:=s.toks+1}):wp M Γ (nsSet a name v) Q E p s:=by
 obtain ⟨o,es,ep,ho,hd,hk,hm⟩:=hn;simp only [nsSet,strHash,wp_bind',wp_cmd_ask,wp_pure',wp_cmd_mkText]
 (rewrite [wp_loadPart_of M Γ E p {s with toks:=s.toks+1} (o:=o) _ ho];try with_reducible rfl)
 have hany:es.any (λU=>U.refKey)=false:=by
  (rewrite [Array.any_eq_false'];try with_reducible rfl);intro e he;obtain ⟨n,t,h⟩:=hk e he;simp [ab3.refKey,h]
 simp only [hd,aRefKeyMayBeTheName_eq,aRefKeyMayBeTheNameByArray,hany,abg,pz,if_false,wp_cmd_updatePart];refine ⟨by (rewrite [ho];try with_reducible rfl);rfl,hQ _ ?_ (lk ..) ?_⟩
 ·obtain ⟨c,d,dt,sl⟩:=o;subst hd;cases hi:es.findIdx? (λU=>U.key.isStr name) with
  |some i=>
   refine ⟨_,_,ep,ew _ ho (by simp only [pa,kA,hi];rfl),by simp only [pa,kA,hi];rfl,hk.modify _ _,λx=>?_⟩;change _=if x=name then some v else m x
   (rewrite [<-hm];try with_reducible rfl);exact findBy_modify (λn v=>v.isStr n) Value.isStr_inj es name x v i hi
  |none=>
   refine ⟨_,_,ep+1,ew _ ho (by simp only [pa,kA,hi];rfl),by simp only [pa,kA,hi];rfl,hk.push _ _ _ _,λx=>?_⟩;change _=if x=name then some v else m x
   (rewrite [<-hm];try with_reducible rfl)
   exact findBy_push (λn v=>v.isStr n) es name x _ _ v (λy=>by
    change (name==y)=decide (y=name);by_cases h:y=name
    ·subst h;simp
    ·have: ¬name=y:=λe=>h e.symm
     simp [h,this]) hi
 ·intro od hod;obtain rfl:o=od:=ag (ho.symm.trans hod);obtain ⟨c,d,dt,sl⟩:=o;subst hd;cases hi:es.findIdx? (λU=>U.key.isStr name) with
  |some i=>exact ⟨_,ew _ ho (by simp only [pa,kA,hi];rfl),by simp only [pa,kA,hi]⟩
  |none=>exact ⟨_,ew _ ho (by simp only [pa,kA,hi];rfl),by simp only [pa,kA,hi]⟩
end
theorem mV{M:ab0}{m}{Q:Unit->Shared->Prop}(hl:env.kindOf name=some .local)(hn:s.heap.Ns env.locals m)(hc:lH env s.heap)
  (h: ∀h',h'.Ns env.locals (λx=>if x=name then some v else m x)->gd env.locals s.heap h'->lH env h'->Q () {s with heap:=h',toks:=s.toks+1})
  (hp:autoParam ((env.scope.kind== .class||(env.scope.kind== .module&&env.locals != env.globals))=false) hZ._auto_4):ax M A (acm env name v) Q E s:=by
 (rewrite [storeName_local hl hp];try with_reducible rfl)
 exact λΓ p U=>BG M Γ _ p s hn name v _ λh' a b c=>h h' a b (hc.elim λo x=>(c o x.1).imp λU y=>⟨y.1,λz=>y.2.trans (x.2.1 z),a.elim λo' a=>a.elim λes a=>a.elim λep a=>⟨es,ep,by cases ag (y.1.symm.trans a.1);exact ⟨a.2.1,a.2.2.1⟩⟩⟩)
section
variable{C:Cx}(z:Z C)
theorem Z.at(e:dg z.ρ z.H ix=some o)(hp:z.y.φ ix=some p)(pl:Pl o.bk p a): ∃d,z.y.W a=some (.at ix d):=by
 have w:=z.ob e hp;rcases pl with rfl|⟨d,rfl⟩
 ·exact ⟨_,w.a⟩
 ·exact ⟨_,w.d d⟩
theorem Z.Lo(e:dg z.ρ z.H ix=some o)(hp:z.y.φ ix=some p)(hi:o'.bk=o.bk)(ha:Pl o.bk p a)(k:eC a z.s.heap h')(hO:dZ C.P z.y h' o' p)(t:Nat):
  ∃I,bY true z ⟨z.y,qN z.ρ ix o',sX z.H ix o',{z.s with heap:=h',toks:=t},I⟩:=by
 have w:=z.ob e hp;obtain ⟨d,hd⟩:=z.at e hp ha;have K:xq C z.y z.y z.ρ (qN z.ρ ix o') z.H (sX z.H ix o') z.s {z.s with heap:=h',toks:=t} (λU=>U=a):=⟨Up.refl _,λb x e q=>⟨e,λo=>k b o q⟩,λb x e=>by
   by_cases q:b=a
   ·subst q;cases ag (hd.symm.trans e);exact .inr ((hO.pl (hi▸ha)).imp λU h=>h.1)
   ·exact .inl ⟨e,q⟩,λb x q e=>by subst q;cases ag (hd.symm.trans e);rfl,λi q e1=>by
   induction ix with
   |obj j=>change i<(put z.H j o').length;(rewrite [ie];try with_reducible rfl);exact z.I.len i q e1
   |own j=>exact z.I.len i q e1,λx o1 e1=>by
   by_cases q:x=ix
   ·subst q
    have:o1=o':=by
     induction x with
     |obj j=>(rewrite [dg,sX,lK (dz e)] at e1;try with_reducible rfl);exact (ag e1).symm
     |own j=>
      (rewrite [dg,qN,bu (lN (gO e))] at e1;try with_reducible rfl)
      exact (ag e1).symm
    subst this;exact .inr ⟨p,hp,w.a,λh=>w.d (hi▸h),hO⟩
   ·have e0:dg z.ρ z.H x=some o1:=by
     induction ix with
     |obj j=>induction x with
      |obj i=>(rewrite [dg,sX,pB λh=>q (congrArg _ h)] at e1;try with_reducible rfl);exact e1
      |own i=>exact e1
     |own j=>induction x with
      |obj i=>exact e1
      |own i=>(rewrite [dg,qN,bD λh=>q (congrArg _ h)] at e1;try with_reducible rfl);exact e1
    refine .inl ⟨e0,rfl,λp' WZ b pl hb=>?_⟩;obtain ⟨d',h⟩:=z.at e0 WZ pl
    (rewrite [hb] at h;try with_reducible rfl)
    cases ag (hd.symm.trans h);exact q rfl,rfl,rfl⟩
 obtain ⟨I,vk⟩:=z.I.objs K (λb x q e=>by subst q;cases ag (hd.symm.trans e);rfl) (λU h=>h) (by rcases ix with _|_;rfl;exact ie) λj=>by
  induction ix with
  |obj i=>exact .inl ⟨rfl,rfl⟩
  |own i=>
   by_cases q:j=i
   ·subst q;obtain ⟨p',h1,h2⟩:=z.own e;refine .inr λvk=>?_
    (rewrite [qN,bu (lN (gO e))];try with_reducible rfl)
    exact ⟨p',h1,vk _ _ h2⟩
   ·exact .inl ⟨bD q,rfl⟩
 exact ⟨I,Le.refl _,λU i x=>λ⟨f,v⟩=>⟨f,vk i f _ v⟩⟩
end
structure DP{C:Cx}(z:Z C)(y:Wd)(i:Nat)(sl:Slot)(v:Value):Prop where
 le:Le z.y y
 up: ∀a x,z.y.W a=some x->y.W a=some x
 old: ∀a x,y.W a=some x->z.y.W a=some x\/(z.y.W a=none/\(∃d,x=.at (.own i) d)/\ ∃o,z.s.heap.get? a=some o)
 φ: ∀x,x≠ .own i->y.φ x=z.y.φ x
 rel:match sl with| .val u=>az y u v| .own o=> ∃p,v=.ref p.a/\pA C.P y z.s.heap (.own i) o p| .empty=>True|_=>False
theorem Ia(ho:gM k=true)(h:By k k'):gM k'=true:=by
 induction k with
 |«local»=>rcases h with _|_;rfl
 |cell=>rcases k' with _|_<;>first|rfl|exact bI h
 |free=>rcases k' with _|_<;>first|rfl|exact bI h
 |_=>exact bI ho
theorem Z.bound{z:Z C}{y:Wd}{sl:Slot}(N:DP z y i sl v)(hi:i<z.ρ.length)(hL:z.y.W L=some w)(hw:w=.ns\/w=.cell i)(kk:eC L z.s.heap h')(hs: ∃o,h'.get? L=some o)(hl:lH C.env h')
  (hj: ∀j f u,j≠i->aY C.env z.y z.s.heap j f u->aY C.env y h' j f u) (hv':jh C.env y h' i sl) (t:Nat):Inv C y (put z.ρ i sl) z.H {z.s with heap:=h',toks:=t}:=by
 have ne: ∀{b x},z.y.W b=some x->x≠ .ns->x≠ .cell i->b≠L:=λe n1 n2 q=>by
  subst q;cases ag (hL.symm.trans e);exact hw.elim n1 n2
 have ob: ∀{x o p},pA C.P y z.s.heap x o p->(∀a,Pl o.bk p a->a≠L)->pA C.P y h' x o p:=λw q=>⟨w.f,w.a,w.d,w.o.keep (Up.refl _) λa ob pl U=>kk a ob (q a pl)⟩;have lr: ∀{o p},pA C.P y z.s.heap (.own i) o p->pA C.P y h' (.own i) o p:=λ{o p} w=>ob w λa pl q=>by
  have e:=N.up _ _ hL;rcases pl with rfl|⟨d,rfl⟩
  ·have:=w.a;rw [q,e] at this;cases ag (this);rcases hw with hw|hw<;>rcases hw with _|_
  ·have:=w.d d;rw [q,e] at this;cases ag (this);rcases hw with hw|hw<;>rcases hw with _|_
 have K:xq C z.y y z.ρ (put z.ρ i sl) z.H z.H z.s {z.s with heap:=h',toks:=t} (λU=>U=L):=⟨N.le.toUp,λb u e q=>⟨N.up b u e,λo=>kk b o q⟩,λb u e=>by
   by_cases q:b=L
   ·subst q;cases ag ((N.up _ _ hL).symm.trans e);rcases hw with rfl|rfl<;>exact .inr hs
   ·rcases N.old b u e with e|⟨_,⟨d,rfl⟩,o,ho⟩
    ·exact .inl ⟨e,q⟩
    ·exact .inr ⟨o,kk b o q ho⟩,λb u q e=>by subst q;cases ag (hL.symm.trans e);rcases hw with rfl|rfl<;>rfl,λj p e=>z.I.len j p ((N.φ (.obj j) nofun).symm.trans e),λu o e=>by
   by_cases q:u=.own i
   ·subst q;rw [dg,bu hi] at e;obtain rfl:=gO e;obtain ⟨p,_,w⟩:=N.rel;exact .inr ⟨p,lr w⟩
   ·have e:dg z.ρ z.H u=some o:=by
     induction u with
     |obj j=>exact e
     |own j=>rw [dg,bD λh=>q (congrArg _ h)] at e;exact e
    refine .inl ⟨e,N.φ _ q,λp hp a pl=>?_⟩;obtain ⟨d,h⟩:=z.at e hp pl;exact ne h nofun nofun,rfl,rfl⟩
 exact z.I.upd K (N.up _ _ z.I.iK) (λj=>by
  by_cases q:j=i
  ·subst q;rw [bu hi];exact hv'
  ·rw [bD q];exact (z.I.vars j).keep K.u (λf u=>hj j f u q) (N.φ _ λh=>q (by injection h))) ie hl λM q=>by induction q with|mk a b c=>exact .mk (N.le.h _ _ a) b c
theorem aY.other{z:Z C}(V:aY C.env z.y z.s.heap j f u)(up: ∀a x,z.y.W a=some x->y.W a=some x)(hL:z.y.W L=some w)(hw:w=.ns\/w=.cell i)(kk:eC L z.s.heap h')
  (hl: ∀n m,aU C.env.scope.names j=some (n,.local)->z.s.heap.Ns C.env.locals m->aY C.env y h' j false (m n)) (q:j≠i):aY C.env y h' j f u:=by
 induction V with
 |loc n1 m1=>exact hl _ _ n1 m1
 |qV n1 k1 c1 w1 d1 g1=>
  refine .qV n1 k1 c1 (up _ _ w1) d1 (g1.imp λo g=>⟨kk _ o (λe=>?_) g.1,g.2⟩);subst e;cases ag (hL.symm.trans w1);rcases hw with rfl|rfl
  ·rcases d1 with d1|d1<;>rcases d1 with _|_
  ·rcases d1 with d1|d1
   ·rcases d1 with _|_;exact q rfl
   ·exact bI d1
set_option tactic.hygienic true in
theorem eF{z:Z C}{sl:Slot}{Q:Unit->Shared->Prop}(F:FE C.env C.sc)(hn:aU C.sc.names i=some (x,k))(ho:gM k=true)(Ib: ∀u,bh z.ρ i≠ .fix u)(N:DP z y i sl v)
  (hq: ∀h' t I,dH (C:=C) ⟨y,put z.ρ i sl,z.H,{z.s with heap:=h',toks:=t},I⟩ i v->(∀j u,j≠i->dH z j u->dH (C:=C) ⟨y,put z.ρ i sl,z.H,{z.s with heap:=h',toks:=t},I⟩ j u)->(∀b,z.y.W b=none->Hk z.s.heap h' b)->Q () {z.s with heap:=h',toks:=t}):
  ax C.M A (acm C.env x v) Q E z.s:=by
 refine ae λaA=>?_;obtain ⟨k',a1,a2,a3⟩:=F.at hn;refine aA ?_;have hi:i<z.ρ.length:=by rw [z.I.rl];exact dz hn
 have go: ∀L h' t w,z.y.W L=some w->w=.ns\/w=.cell i->eC L z.s.heap h'->(∃o,h'.get? L=some o)->lH C.env h'->(∀j f u,j≠i->aY C.env z.y z.s.heap j f u->aY C.env y h' j f u)->aY C.env y h' i false (some v)->Q () {z.s with heap:=h',toks:=t}:=λL h' t w hL hw kk hs hl hj hv=>by
  have hv':jh C.env y h' i sl:=by
   have r:=N.rel;induction sl with
   |val u=>exact ⟨v,hv,r⟩
   |own o=>obtain ⟨p,rfl,w⟩:=r;exact ⟨p,w.f,hv⟩
   |empty=>exact λU=>⟨_,hv⟩
   |fix u=>exact r.elim
  exact hq h' t (z.bound N hi hL hw kk hs hl hj hv' t) ⟨_,hv⟩ (λj u q ⟨f,w⟩=>⟨f,hj j f _ q w⟩) λb hb o ho=>kk b o (λq=>by rw [q,hL] at hb;exact bw (hb).symm) ho
 have cur: ∃u,aY C.env z.y z.s.heap i false u:=by
  have w:=z.I.vars i;revert w Ib;cases bh z.ρ i with
  |empty=>exact λU w=>w ⟨x,k',a1,Ia ho a2⟩
  |val u=>exact λ_ ⟨y,w⟩=>⟨_,w.1⟩
  |own u=>exact λ_ ⟨y,w⟩=>⟨_,w.2⟩
  |fix u=>exact λh=>(h u rfl).elim
 obtain ⟨u,V⟩:=cur;generalize hf:false=f at V;cases V with
 |loc n1 m1=>
  refine ae λb8=>?_;obtain ⟨rfl,rfl⟩:=fc a1 n1;refine b8 ?_;refine mV a3 m1 z.I.loc (λh' h1 h2 hl=>?_) (by rw [F.kind];rfl);exact go _ h' _ _ z.I.iK (.inl rfl) h2.extBut (h1.imp λo q=>q.elim λU q=>q.elim λU q=>q.1) hl (λj f u q V=>V.other N.up z.I.iK (.inl rfl) h2.extBut (λn m n2 m2=>by
   have:=aY.loc (y:=y) n2 h1
   rw [if_neg λe=>q (jl F.DI n2 (e▸a1)),tw m1 m2] at this;exact this) q) (by have:=aY.loc (y:=y) a1 h1;rw [if_pos rfl] at this;exact this)
 |qV n1 k1 c1 w1 d1 g1=>
  rename_i c w
  refine ae λjT=>?_;obtain ⟨rfl,rfl⟩:=fc a1 n1;have dw:w=.cell i:=d1.elim id λd=>mn (hf.trans d);subst dw;refine jT ?_;have nl: ∀{c},z.y.W c=some (.cell i)->C.env.locals≠c:=λw1 e=>by rw [<-e,z.I.iK] at w1;cases ag (w1)
  have fin: ∀h':Heap,h'.IsCell c (some v)->gd c z.s.heap h'->Q () {z.s with heap:=h'}:=λh' h1 h2=>
   go _ h' z.s.toks _ w1 (.inr rfl) h2.extBut (h1.imp λo q=>q.1) (z.I.loc.imp λo q=>⟨h2.extBut _ _ (nl w1) q.1,q.2⟩) (λj f u q V=>V.other N.up w1 (.inr rfl) h2.extBut (λn m n2 m2=>.loc n2 (zV m2 λo=>h2.extBut _ o (nl w1))) q) (aY.qV (w:=.cell i) a1 k1 c1 (N.up _ _ w1) (.inl rfl) h1)
  rcases k' with _|_<;>first|exact wpAny_storeName_cell F.kind a3 c1 g1 fin|exact storeName_free F.kind a3 c1 g1 fin|exact bI k1
end MP
end Mine.Lake
end
section
namespace Mine.Lake
namespace MP
open PySem PySem.W PyProof.Rows
section
variable{C:Cx}{z:Z C}{r:R}{v:Value}
theorem Z.tok(z:Z C)(t:Nat): ∃I,bY true z ⟨z.y,z.ρ,z.H,{z.s with toks:=t},I⟩:=z.iR (Keeps.refl _) t
theorem Z.ref(z:Z C)(h:aU z.H i=some o)(x:az z.y (.ref i) v): ∃p,v=.ref p.a/\dZ C.P z.y z.s.heap o p/\z.y.J p.a=none/\z.y.φ (.obj i)=some p:=by
 obtain ⟨p,hp,rfl⟩:=x;have w:=z.ob (ix:=.obj i) h hp;exact ⟨p,rfl,w.o,congrArg bR w.a,hp⟩
inductive eG(z:Z C)(c:String)(l:List V):Value->Prop
 |mk {a xs}:(∃o,z.s.heap.get? a=some o/\o.cls=.type c/\ ∃n,o.data=.seq xs n)->aB z.y l xs.toList->eG z c l (.ref a)
theorem eG.kept(x: ∃xs,qT z.y.J c v xs/\aB z.y l xs):eG z c l v:=by
 obtain ⟨xs,k,r⟩:=x;induction k with|mk a b d=>exact .mk ⟨_,z.qZ a,b,_,d⟩ r
theorem eG.list(x:dZ C.P z.y z.s.heap (.list l) p):eG z "list" l (.ref p.a):=by
 obtain ⟨xs,ep,e,r⟩:=x;exact .mk ⟨_,e,rfl,_,rfl⟩ r
inductive ny(z:Z C)(c:Nat)(fs:List (Nat×V)):Value->Prop
 |mk {a d m}:gx z.s.heap.get? c a d m->Dom fs m->eN z.y fs m->ny z c fs (.ref a)
inductive kh(z:Z C)(k:List (List Nat×V)):Value->Prop
 |mk {p}:dZ C.P z.y z.s.heap (.dict k) p->z.y.J p.a=none->kh z k (.ref p.a)
inductive lR(z:Z C)(b:List Nat):Value->Prop
 |mk {p}:dZ C.P z.y z.s.heap (.jS b) p->lR z b (.ref p.a)
structure cW(z:Z C)(u:D)(x:Value):Prop where
 n: ∀v,u.n=some v->(x== .none)=v
 b: ∀v,u.b=some v->x=.bool v
 i: ∀v,u.i=some v->az z.y (.int v) x
 s: ∀v,u.s=some v->az z.y (.str v) x
 y: ∀v,u.y=some v->az z.y (.bytes v) x
 t: ∀v,u.t=some v->az z.y (.tup v) x
 l: ∀v,u.l=some v->eG z "list" v x
 d: ∀v,u.d=some v->kh z v x
 o: ∀v,u.o=some v->ny z v.1 v.2 x
 a: ∀v,u.a=some v->lR z v x
 x: ∀v,u.x=some v-> ∃k u,qU z.y.J k x u/\az z.y v u
theorem W3:cW z {} x:=⟨λU h=>bw h,λU h=>bw h,λU h=>bw h,λU h=>bw h,λU h=>bw h,λU h=>bw h,λU h=>bw h,λU h=>bw h,λU h=>bw h,λU h=>bw h,λU h=>bw h⟩
theorem sv{α:Type}{P:α->Prop}{a:α}(p:P a): ∀v,some a=some v->P v:=λU h=>ag h▸p
theorem zY(h:(x== .none)=false):cW z {n:=some false} x:={W3 with n:=sv (P:=λb=>(x== .none)=b) h}
theorem QB{x:Value}(h: ∃a,x=.ref a):(x== .none)=false:=h.elim λU e=>e▸rfl
theorem qT.ref(h:qT L c x xs): ∃a,x=.ref a:=by cases h;exact ⟨_,rfl⟩
theorem qU.ref(h:qU L k x w): ∃a,x=.ref a:=by cases h;exact ⟨_,rfl⟩
theorem xQ.ref{cl ns}(h:xQ L k x cl ns): ∃a,x=.ref a:=by cases h;exact ⟨_,rfl⟩
theorem W4(h:dZ C.P z.y z.s.heap o p)(j:z.y.J p.a=none):cW z (Br o) (.ref p.a):=by
 induction o with
 |list l=>exact {zY rfl with l:=sv (P:=λl=>eG z "list" l (.ref p.a)) (.list h)}
 |dict k=>exact {zY rfl with d:=sv (P:=λk=>kh z k (.ref p.a)) (.mk h j)}
 |inst c fs=>obtain ⟨m,a,b,c'⟩:=h;exact {zY rfl with o:=sv (P:=λv:Nat×List (Nat×V)=>ny z v.1 v.2 (.ref p.a)) (.mk a b c')}
 |jS b=>exact {zY rfl with a:=sv (P:=λb=>lR z b (.ref p.a)) (.mk h)}
theorem W5(h:az z.y x v):cW z (sM x z.H) v:=by
 cases x with
 |none=>cases h;exact {W3 with n:=sv (P:=λb=>(rk== .none)=b) rfl}
 |bool b=>cases h;exact {zY rfl with b:=sv (P:=λb'=>Value.bool b=.bool b') rfl}
 |int i=>exact {zY (h.elim λU e=>e▸rfl) with i:=sv (P:=λi=>az z.y (.int i) v) h}
 |str i=>exact {zY (h.elim λU e=>e▸rfl) with s:=sv (P:=λi=>az z.y (.str i) v) h}
 |bytes i=>exact {zY (h.elim λU e=>e.elim λU e=>e.1▸rfl) with y:=sv (P:=λi=>az z.y (.bytes i) v) h}
 |tup i=>exact {zY (QB (h.elim λU e=>e.1.ref)) with t:=sv (P:=λi=>az z.y (.tup i) v) h}
 |list i=>exact {zY (QB (h.elim λU e=>e.1.ref)) with l:=sv (P:=λi=>eG z "list" i v) (.kept h)}
 |inst c fs=>exact {zY (QB (h.elim λU h=>h.elim λU h=>h.elim λU e=>⟨_,e.1⟩)) with o:=sv (P:=λu:Nat×List (Nat×V)=>ny z u.1 u.2 v) (by obtain ⟨a,d,m,rfl,i,k,f⟩:=h;exact .mk (i.mono λU U=>z.qZ) k f)}
 |ou k c=>exact zY (QB (h.elim λU h=>h.elim λU h=>h.1.ref))
 |exc k w=>exact {zY (QB (h.elim λU h=>h.1.ref)) with x:=sv (P:=λw=> ∃k u,qU z.y.J k v u/\az z.y w u) ⟨k,h⟩}
 |ref a=>
  show cW z (match aU z.H a with|some o=>Br o| .none=>{n:=some false}) v;cases q:aU z.H a with
  |none=>exact zY (QB (h.elim λU e=>⟨_,e.2⟩))
  |some o=>obtain ⟨p,rfl,w,j,_⟩:=z.ref q h;exact W4 w j
theorem rd(h:bK C z r v):cW z (den r z.ρ z.H) v:=by
 induction r with
 |val x=>exact W5 h
 |own o=>obtain ⟨p,rfl,w⟩:=h;exact W4 w.o (congrArg bR (w.n _ (.inl rfl)))
 |slot i=>
  have e:=λx (q:vf (bh z.ρ i)=some x)=>W5 (mS (r:=.slot i) h q);have o:=λo (q:sW (bh z.ρ i)=some o)=>z.own q;have b:=λo p (q:sW (bh z.ρ i)=some o)=>z.ob (ix:=.own i) (o:=o) (p:=p) q;show cW z (match bh z.ρ i with| .empty=>{}| .val v=>sM v z.H| .fix v=>sM v z.H| .own o=>Br o) v;revert e o b;cases bh z.ρ i with
  |empty=>exact λU U U=>W3
  |val x=>exact λe U U=>e x rfl
  |fix x=>exact λe U U=>e x rfl
  |own u=>exact λU o b=>(by obtain ⟨p,hp,V⟩:=o u rfl;cases ag ((V.fn h.choose_spec).2);have w:=b u p rfl hp;exact W4 w.o (congrArg bR w.a))
variable{d:D}{x:Value}
theorem cW.it(h:cW z d x){l:List V}(e:d.it=some l):eG z "list" l x\/az z.y (.tup l) x:=gq e (λU a b=>.inl (h.l _ (a.trans b))) λe=>.inr (h.t _ e)
end
theorem aB.len: ∀{l:List V} {xs:List Value},aB y l xs->l.length=xs.length:=by
 intro l;induction l with
 |nil=>intro xs h;cases h;rfl
 |cons a l ih=>intro xs h;obtain ⟨x,r,rfl,_,h⟩:=h;exact congrArg (λU=>U+1) (ih h)
theorem di{xs:Array Value}(h:aB y l xs.toList):l.length=xs.size:=h.len.trans eA
theorem DQ:(strOf a==strOf b)=bP a b:=by
 rw [lP];cases q:decide (a=b) with
 |true=>rw [of_decide_eq_true q];exact beq_self_eq_true _
 |false=>exact beq_eq_false_iff_ne.mpr λe=>of_decide_eq_false q (by simpa [strOf] using e)
theorem aZ(h:aT a b=true):a<b:=g0.mp h
theorem fj(h:bf k=true):k<2^23:=aZ h
theorem bE(h:bf k=true):k<=abQ:=kp (kS (fj h) (by decide))
section
variable{C:Cx}{z:Z C}{b:Bool}{r:R}{Q E:Value->Shared->Prop}
def RE(z:Z C)(h':Heap)(r:R)(x:Value):Prop:=match r with
 | .val v=>az z.y v x\/ ∃vs a xs,v=.tup vs/\x=.ref a/\z.s.heap.get? a=none/\h'.get? a=some {cls:=.type "tuple",data:=.seq xs}/\aB z.y vs xs.toList
 | .own o=> ∃p,x=.ref p.a/\(∀a,Pl o.bk p a->z.s.heap.get? a=none)/\dZ C.P z.y h' o p
 | .slot _=>False
def kO(z:Z C)(r:R)(Q:Value->Shared->Prop):Prop:= ∀x h' t,Keeps z.s.heap h'->RE z h' r x->Q x {z.s with heap:=h',toks:=t}
theorem kO.to(N:kO z r Q)(h:some r'=some r):kO z r' Q:=ag h▸N
theorem kO.val(N:kO z (.val v) Q)(h:az z.y v x)(t:Nat):Q x {z.s with toks:=t}:=N x z.s.heap t (Keeps.refl _) (.inl h)
theorem kO.Na(N:kO z (.val v) Q)(h:az z.y v x)(k:Keeps z.s.heap h')(t:Nat):Q x {z.s with heap:=h',toks:=t}:=N x h' t k (.inl h)
theorem kO.list{vs:List V}(N:kO z (.own (.list vs)) Q)(k:Keeps z.s.heap h')(hn:z.s.heap.get? a=none)(e:h'.get? a=some {cls:=.type "list",data:=.seq xs ep})(r:aB z.y vs xs.toList)(t:Nat):Q (.ref a) {z.s with heap:=h',toks:=t}:=
 N _ h' t k ⟨⟨a,0⟩,rfl,(λU q=>Or.elim q (λq=>q▸hn) λq=>(nomatch q.1)),xs,ep,e,r⟩
theorem kO.DR{vs:List V}(N:kO z (.own (.list vs)) Q)(r:aB z.y vs xs.toList)(t:Nat):Q (.ref z.s.heap.objs.size) {z.s with heap:=z.s.heap.push {cls:=.type "list",data:=.seq xs},toks:=t}:=N.list (Keeps.push _ _) (aN _) (da _ rfl) r t
theorem kO.tup{vs:List V}(N:kO z (.val (.tup vs)) Q)(k:Keeps z.s.heap h')(hn:z.s.heap.get? a=none)(e:h'.get? a=some {cls:=.type "tuple",data:=.seq xs})(r:aB z.y vs xs.toList)(t:Nat):Q (.ref a) {z.s with heap:=h',toks:=t}:=N _ h' t k (.inr ⟨vs,a,xs,rfl,rfl,hn,e,r⟩)
theorem Z.Nb(z:Z C)(k:Keeps z.s.heap h')(hn:z.s.heap.get? a=none)(e:h'.get? a=some o)(t:Nat): ∃y' I',bY true z ⟨y',z.ρ,z.H,{z.s with heap:=h',toks:=t},I'⟩/\y'.J a=some o:=by
 have hw:=z.no hn;obtain ⟨I',A⟩:=z.more (s':={z.s with heap:=h',toks:=t}) (Le.set (x:=some (.kept o)) hw) (λb x q=>⟨(z.y.cA _ (Wd.ne hw q)).trans q,k b⟩) (λb x q=>by
  by_cases c:b=a
  ·subst c;cases ag ((z.y.cC _ _).symm.trans q);exact .inr e
  ·exact .inl ((z.y.cA _ c).symm.trans q)) rfl
 exact ⟨_,I',A,congrArg bR (z.y.cC _ _)⟩
theorem Po.new(w:Po b bK z (.ok r z.ρ z.H) Q E):kO z r Q:=λx h' t k n=>by
 have go:=λ(h: ∀I',bK C ⟨z.y,z.ρ,z.H,{z.s with heap:=h',toks:=t},I'⟩ r x)=>(z.iR k t).elim λI' A=>w.ok' rfl ⟨_,_,_,_,I'⟩ A.lax (h I');induction r with
 |val v=>
  rcases n with n|⟨vs,a,xs,rfl,rfl,hn,e,q⟩
  ·exact go λU=>n
  ·obtain ⟨y',I',A,j⟩:=z.Nb k hn e t;exact w.ok' rfl ⟨_,_,_,_,I'⟩ A.lax ⟨_,.mk j rfl rfl,q.mono A.toUp⟩
 |own o=>exact go λU=>n.imp λp n=>⟨n.1,λa q=>z.no (n.2.1 a q),n.2.2⟩
 |slot i=>exact n.elim
theorem Po.bool{Q:Bool->Shared->Prop}(w:Po b kM z (.ok d z.ρ z.H) Q E)(t:Nat):Q d {z.s with toks:=t}:=(z.tok t).elim λU A=>w.ok' rfl ⟨_,_,_,_,_⟩ A.lax rfl
end
end MP
end Mine.Lake
end
section
namespace Mine.Lake
namespace MP
open PySem PySem.W PyProof.Rows
open PySem.SeqAt AutoSeq1 MeetsSeq MeetsSeq2 MeetsSeq3 SeqRoads2
noncomputable def pG(A:Around)(s:Shared)(r:Bool):List Value->List Value->Prop
 |[],ys=>r=ys.isEmpty
 |y::a,ys=>match ys with
  |[]=>r=false
  |x::b=>(EqAt A s y x true/\pG A s r a b)\/(EqAt A s y x false/\r=false)
theorem pG.fin(h:pG A s r a b)(e:a.zip b=[]):r=(a.length==b.length):=by
 induction a with
 |nil=>rcases b with _|_<;>exact h
 |cons y a=>induction b with
  |nil=>exact h
  |cons=>exact nomatch e
theorem Ic{a b n m:Nat}(h:a+m=b+n):(n==m)=(a==b):=by
 by_cases q:a=b
 ·subst q;rw [Hm h,beq_self_eq_true,beq_self_eq_true]
 ·rw [beq_eq_false_iff_ne.mpr q,beq_eq_false_iff_ne.mpr λe=>q (Nat.add_right_cancel (e▸h))]
theorem Nc(l b:Addr)(items items2:Array Value)(n n2:Nat)(dd dd2:Option Addr)(sl sl2:Array (Option Value))(r:Bool):
  Meets (Builtin.«tuple.__eq__» ⟨[.ref l,.ref b],[]⟩)
   (λA R s=>s.heap.get? l=some {cls:=.type "tuple",dict:=dd,data:=.seq items n,slots:=sl}/\s.heap.get? b=some {cls:=.type "tuple",dict:=dd2,data:=.seq items2 n2,slots:=sl2}/\
    pG A.in1 s r items.toList items2.toList/\R (.ok (.ret (.bool r))) s):=
 .of_wp λprog w A R s h=>by
  obtain ⟨hp,g,d,tk,os⟩:=s;obtain ⟨hl,hb,he,h⟩:=h;have f2:=AutoSeq1.sub_tuple_tuple
  wp_walk using wpAny_loadPart' hl,wpAny_loadPart' hb,wpAny_forIn_list _ (λrest b s'=>b.1=none/\s'=⟨hp,g,d,tk,os⟩/\ ∃p q,rest=List.zip p q/\pG A.in1 ⟨hp,g,d,tk,os⟩ r p q/\p.length+items2.size=q.length+items.size) _
  case turn=>
   rintro ⟨y,x⟩ rest b s' ⟨hb',rfl,p,q,hz,hR,hlen⟩
   cases p with
   |nil=>exact nomatch hz
   |cons y' p=>cases q with
    |nil=>exact nomatch hz
    |cons x' q=>
     cases hz;rcases hR with ⟨h1,h2⟩|⟨h1,rfl⟩
     ·refine bc (h1 prog w _ _ ?_)
      wp_walk
      exact ⟨rfl,rfl,p,q,rfl,h2,Nat.succ_inj.mp (by rw [<-aaj, <-aaj];exact hlen)⟩
     ·refine bc (h1 prog w _ _ ?_)
      wp_walk
      exact ⟨_,rfl,by simpa using h⟩
  case fin=>
   rintro ⟨b1,b2⟩ s' ⟨hb',rfl,p,q,hz,hR,hlen⟩
   cases hb';have e2:=(Ic hlen).trans (hR.fin hz.symm).symm
   wp_walk
   exact ⟨_,rfl,by simpa [aa0,e2] using h⟩
  case h=>exact ⟨rfl,rfl,items.toList,items2.toList,rfl,he,by simp [nr]⟩
theorem Nd(hl:s.heap.IsTuple l items)(hb:s.heap.IsTuple b items2)(hu:A.units<ade)(he:pG A.in1 s r items.toList items2.toList):RcAt A s (.ref l) (.ref b) r:=λprog w E Q h=>by
 refine ae λaA=>?_;obtain ⟨⟨cls,dd,data,sl⟩,ho,hc,n,hd⟩:=id hl;obtain ⟨⟨aaa,dd2,data2,sl2⟩,ho2,hc2,n2,hd2⟩:=id hb;refine aA ?_;cases hc;cases hd;cases hc2;cases hd2;exact richCompare_meets_room (op:=.Eq) ⟨_,ho,rfl⟩ ⟨_,ho2,rfl⟩ F.slot_tuple_eq F.entry_tuple_eq (F.args_tuple_eq_2 _ _) (Nc l b items items2 n n2 dd dd2 sl sl2 r)
  ⟨ho,ho2,he,show Value.bool r≠Value.notImplemented/\Q (.bool r) s from ⟨(λx=>nomatch x),h⟩⟩ hu
theorem lS(h:rz v=some s):v=.str s:=by rcases v with _|_<;>first|(cases ag (h);rfl)|exact bw h
theorem tD(h:ru v=some s):v=.int s:=by rcases v with _|_<;>first|(cases ag (h);rfl)|exact bw h
theorem lT{i:Int}(h:asNat i=some n):i=(n:Int):=by rcases i with _|_<;>first|(cases ag (h);rfl)|exact bw h
theorem DS(hx:aB y p xs)(hy:aB y q ys)(h:zR p q=some r):pG A s r xs ys:=by
 induction p generalizing q xs ys with
 |nil=>
  cases hx;have e:ys.isEmpty=q.isEmpty:=by
   induction q with
   |nil=>cases hy;rfl
   |cons b q=>obtain ⟨_,_,rfl,_⟩:=hy;rfl
  exact (ag h).symm.trans e.symm
 |cons a p ih=>
  obtain ⟨x,xs,rfl,ha,hx⟩:=hx;cases q with
  |nil=>cases hy;exact (ag h).symm
  |cons b q=>
   obtain ⟨x2,ys,rfl,hb,hy⟩:=hy;refine aQ h λl e1 h=>aQ h λm e2 h=>?_;rw [lS e1] at ha;rw [lS e2] at hb;obtain ⟨t,rfl⟩:=ha;obtain ⟨u,rfl⟩:=hb;have e:EqAt A s (.str (strOf l) t) (.str (strOf m) u) (bP l m):=by rw [<-DQ];exact EqAt.str_str _ _ _ _
   revert e h;cases bP l m with
   |true=>exact λh e=>.inl ⟨e,ih hx hy h⟩
   |false=>exact λh e=>.inr ⟨e,(ag h).symm⟩
theorem list_eq:(a==b)=bP a b:=by
 cases q:bP a b with
 |true=>rw [dP q];exact beq_self_eq_true _
 |false=>exact beq_eq_false_iff_ne.mpr (kN q)
theorem all_range(n:Nat):((cc n).all λU=>true)=true:=fi.mpr λU U=>rfl
noncomputable abbrev xV(ne:Bool):CmpOp:=cond ne .NotEq .Eq
section
variable{prog:Program}{w:abR}{A:Around}{E:Value->Shared->Prop}{s:Shared}{Q:Value->Shared->Prop}{k:Wd}{x y:Value}{ne a r:Bool}
theorem qb(h:some a=some r)(hq:Q (.bool (cond ne (!r) r)) s):Q (.bool (cond ne (!a) a)) s:=ag h▸hq
theorem Ie{i j:Int}(hx:az k (.int i) x)(hy:az k (.int j) y)(hq:Q (.bool (cond ne (!decide (i=j)) (decide (i=j)))) s):ax (abJ prog w) A (abY (xV ne) x y) Q E s:=by
 obtain ⟨t,rfl⟩:=hx;obtain ⟨u,rfl⟩:=hy;rcases ne with _|_
 ·exact P.eq_int hq
 ·exact P.ne_int hq
theorem Ig{i j:List Nat}(hx:az k (.str i) x)(hy:az k (.str j) y)(hq:Q (.bool (cond ne (!bP i j) (bP i j))) s):ax (abJ prog w) A (abY (xV ne) x y) Q E s:=by
 obtain ⟨t,rfl⟩:=hx;obtain ⟨u,rfl⟩:=hy;rw [<-list_eq] at hq;rcases ne with _|_
 ·exact P.eq_str hq
 ·exact P.ne_str hq
theorem DT{i j:Bool}(hx:x=.bool i)(hy:y=.bool j)(hq:Q (.bool (cond ne (!eqB i j) (eqB i j))) s):ax (abJ prog w) A (abY (xV ne) x y) Q E s:=by
 rw [hx,hy];rcases ne with _|_
 ·exact eq_bool (by rcases i with _|_<;>rcases j with _|_<;>exact hq)
 ·exact ne_bool (by rcases i with _|_<;>rcases j with _|_<;>exact hq)
theorem RG(hu:A.units<ade)(h1:s.heap.IsList l xs)(k1:s.heap.IsList m ys)(h:(xs.size=0/\ys.size=0/\r=true)\/((xs.size != ys.size)=true/\r=false))(hq:Q (.bool (cond ne (!r) r)) s):ax (abJ prog w) A (abY (xV ne) (.ref l) (.ref m)) Q E s:=by
 rcases h with ⟨i0,j0,rfl⟩|⟨n,rfl⟩
 ·have nz: ∀k,k<xs.size-> ∀{P:Prop},P:=λk hk=>absurd hk (i0▸xa k);rcases ne with _|_
  ·exact eq_listAt (e:=λU=>true) h1 k1 (i0.trans j0.symm) hu (λk hk=>nz k hk) (by rw [all_range];exact hq)
  ·exact RcNeAt.lists (e:=λU=>true) h1 k1 (i0.trans j0.symm) hu (λk hk=>nz k hk) _ _ _ _ (by rw [all_range];exact hq)
 ·rcases ne with _|_
  ·exact eq_list_lengthsAt h1 k1 n hu hq
  ·exact RcNeAt.lists_lengths h1 k1 n hu _ _ _ _ hq
end
theorem RH(l1:p.length=n)(l2:q.length=m)(h:sQ p q=some r):(n=0/\m=0/\r=true)\/((n != m)=true/\r=false):=by
 subst l1 l2;induction p with
 |nil=>induction q with
  |nil=>exact .inl ⟨rfl,rfl,(ag h).symm⟩
  |cons=>exact .inr ⟨rfl,(ag h).symm⟩
 |cons=>induction q with
  |nil=>exact .inr ⟨rfl,(ag h).symm⟩
  |cons=>exact bw h
section
variable{C:Cx}{z:Z C}{d e:D}{x y:Value}{r:Bool}{Q E:Value->Shared->Prop}
theorem DU(hu:C.A.units<ade)(hx:eG z "list" p x)(hy:eG z "list" q y)(h:sQ p q=some r)(hq:Q (.bool (cond ne (!r) r)) z.s):ax C.M C.A (abY (xV ne) x y) Q E z.s:=by
 induction hx with|mk h1 h2=>induction hy with|mk k1 k2=>exact RG hu h1 k1 (RH (di h2) (di k2) h) hq
theorem Ii(hu:C.A.units<ade)(hx:az z.y (.tup p) x)(hy:az z.y (.tup q) y)(h:zR p q=some r)(hq:Q (.bool r) z.s):ax C.M C.A (abY .Eq x y) Q E z.s:=by
 refine ae λaA=>?_;obtain ⟨xs,k1,r1⟩:=hx;obtain ⟨ys,k2,r2⟩:=hy;induction k1 with|mk a1 a2 a3=>induction k2 with|mk b1 b2 b3=>
 refine aA ?_;exact Nd ⟨_,z.qZ a1,a2,_,a3⟩ ⟨_,z.qZ b1,b2,_,b3⟩ hu (DS r1 r2 h) _ _ _ _ hq
theorem DV(hu:C.A.units<ade)(hx:cW z d x)(hy:cW z e y)(h:Ve d e o=some r)(hq:Q (.bool (cond ne (!r) r)) z.s)(ho:o=some r->ax C.M C.A (abY (xV ne) x y) Q E z.s):ax C.M C.A (abY (xV ne) x y) Q E z.s:=
 gq h (λi e1 h=>aQ h λj e2 h=>Ie (hx.i _ e1) (hy.i _ e2) (qb h hq)) λh=>
 gq h (λi e1 h=>aQ h λj e2 h=>Ig (hx.s _ e1) (hy.s _ e2) (qb h hq)) λh=>
 gq h (λi e1 h=>aQ h λj e2 h=>DT (hx.b _ e1) (hy.b _ e2) (qb h hq)) λh=>
 gq h (λi e1 h=>aQ h λj e2 h=>DU hu (hx.l _ e1) (hy.l _ e2) h hq) ho
theorem Nf(hu:C.A.units<ade)(hx:cW z d x)(hy:cW z e y)(h:WI d e=some r)(hq:Q (.bool r) z.s):ax C.M C.A (abY .Eq x y) Q E z.s:=
 DV (ne:=false) hu hx hy h hq λh=>aQ h λp e1 h=>aQ h λq e2 h=>Ii hu (hx.t _ e1) (hy.t _ e2) h hq
theorem Ng(hu:C.A.units<ade)(hx:cW z d x)(hy:cW z e y)(h:WJ d e=some r)(hq:Q (.bool (!r)) z.s):ax C.M C.A (abY .NotEq x y) Q E z.s:=DV (ne:=true) hu hx hy h hq λh=>bw h
end
end MP
end Mine.Lake
end
section
namespace Mine.Lake
namespace MP
open PySem PySem.W PyProof.Rows PySem.SeqAt
def gF(kvs:List (List Nat×V))(es:List ab3):List (Str×Value):=(kvs.map (λkv=>strOf kv.1)).zip (es.map (λU=>U.val))
theorem gR(h:strOf a=strOf b):a=b:=by simpa [strOf] using h
section
variable{prog:Program}{w:abR}{P:abK}{y:Wd}{kvs:List (List Nat×V)}{es:List ab3}
theorem cR(x:Str)(t:Tok):(ed prog w).is x (.str x t)=true:=beq_self_eq_true x
theorem DW(h:fN w.params y kvs es):Pairs (ed prog w) es (gF kvs es)/\ ∀e∈es, ∃k,(ed prog w).is k e.key=true/\e.hash=(ed prog w).hash k:=by
 induction kvs generalizing es with
 |nil=>cases h;exact ⟨.nil,λU h=>nomatch h⟩
 |cons a kvs ih=>
  refine ae λaA=>?_;obtain ⟨t,x,r,rfl,_,h⟩:=h;refine aA ?_;exact ⟨.cons (cR _ _) rfl (ih h).1,du.mpr ⟨⟨strOf a.1,cR _ _,rfl⟩,(ih h).2⟩⟩
theorem xW{r:List (Str×Value)}:ada ((k,x)::r) k=some x:=by simp [ada]
theorem vC{r:List (Str×Value)}(h: ¬n=k):ada ((n,x)::r) k=ada r k:=by simp [ada,h]
theorem kP(h:fN P y kvs es)(e:bX k kvs=some v): ∃x,ada (gF kvs es) (strOf k)=some x/\az y v x:=by
 induction kvs generalizing es with
 |nil=>exact bw e
 |cons a kvs ih=>
  obtain ⟨t,x,r,rfl,hv,h⟩:=h;change cond (bP k a.1) (some a.2) (bX k kvs)=_ at e;cases q:bP k a.1 with
  |true=>rw [q] at e;cases ag (e);rw [dP q];exact ⟨x,xW,hv⟩
  |false=>rw [q] at e;exact (ih h e).imp λU g=>⟨(vC λe=>kN q (gR e.symm)).trans g.1,g.2⟩
theorem pH(h:fN P y kvs es)(e:bX k kvs=none):ada (gF kvs es) (strOf k)=none:=by
 induction kvs generalizing es with
 |nil=>cases h;rfl
 |cons a kvs ih=>
  refine ae λaA=>?_;obtain ⟨t,x,r,rfl,hv,h⟩:=h;refine aA ?_;change cond (bP k a.1) (some a.2) (bX k kvs)=_ at e;cases q:bP k a.1 with
  |true=>rw [q] at e;cases e
  |false=>rw [q] at e;exact (vC λe=>kN q (gR e.symm)).trans (ih h e)
theorem xX(h:fN P y kvs es):kvs.length=es.length:=by
 induction kvs generalizing es with
 |nil=>cases h;rfl
 |cons a kvs ih=>obtain ⟨t,x,r,rfl,_,h⟩:=h;exact congrArg (λU=>U+1) (ih h)
theorem Nh(h:fN P y kvs es):(gF kvs es).map (λU=>U.1)=kvs.map λkv=>strOf kv.1:=
 pd (by rw [df,df,xX h];exact eb _)
theorem jm(h:distinct ks=true):(ks.map strOf).Nodup:=by
 induction ks with
 |nil=>exact mB
 |cons k r ih=>
  have h:=oh h;refine iq.mpr ⟨λhm=>?_,ih h.2⟩;obtain ⟨b,hb,e⟩:=dy.mp hm;exact q0.mp h.1 b hb (by rw [gR e];exact lQ _)
end
theorem dZ.dictOf{C:Cx}(x:dZ C.P y h (.dict kvs) p): ∃es:List ab3,fN C.P y kvs es/\h.DictOf (ed PT C.w) p.a (gF kvs es):=by
 refine ae λaA=>?_;obtain ⟨ob,es,ep,h1,h2,h3,h4,h5⟩:=x;refine aA ?_;have ab:=DW (prog:=PT) (w:=C.w) h4;refine ⟨es.toList,h4,ob,es,ep,h1,h2,h3,λe he=>ab.2 e (vw.mpr he),ab.1,?_⟩;rw [Nh h4]
 have:=jm h5
 rwa [abB] at this
section
variable{A:Around}{s:Shared}{y:Wd}{x:Value}
theorem Ij:(d||r)=cond d true r:=by rcases d with _|_<;>rfl
theorem xY(hf: ∀v b w,f v=some b->az y v w->EqAt A s w x (g w)/\g w=b)(hl:aB y l xs)(h:Rf f l=some r):(∀w∈xs,EqAt A s w x (g w))/\xs.any g=r:=by
 induction l generalizing xs r with
 |nil=>cases hl;cases ag (h);exact ⟨λU h=>(nomatch h),rfl⟩
 |cons v l ih=>
  obtain ⟨w,xs,rfl,hw,hl⟩:=hl;exact aQ h λb e1 h=>aQ h λd e2 h=>⟨du.mpr ⟨(hf _ _ _ e1 hw).1,(ih hl e2).1⟩,by rw [Dx,(hf _ _ _ e1 hw).2,(ih hl e2).2,Ij];exact ag h⟩
def gS(a:List Nat):Value->Bool| .str b _=>bP b.cps.toList a|_=>false
noncomputable def gI(a:Int):Value->Bool| .int b _=>decide (b=a)|_=>false
noncomputable def gN:Value->Bool| .none=>true|_=>false
theorem Ik(hx:az y (.str a) x)(v:V)(b:Bool)(w:Value)(h:Rg a v=some b)(hw:az y v w):EqAt A s w x (gS a w)/\gS a w=b:=by
 obtain ⟨t,rfl⟩:=hx;refine aQ h λc e h=>?_;rw [lS e] at hw;obtain ⟨u,rfl⟩:=hw;exact ⟨show EqAt A s _ _ (bP c a) from DQ▸EqAt.str_str (strOf c) u (strOf a) t,ag h⟩
theorem Il(hx:az y (.int a) x)(v:V)(b:Bool)(w:Value)(h:Rh a v=some b)(hw:az y v w):EqAt A s w x (gI a w)/\gI a w=b:=by
 obtain ⟨t,rfl⟩:=hx;refine aQ h λc e h=>?_;rw [tD e] at hw;obtain ⟨u,rfl⟩:=hw;exact ⟨EqAt.int_int c u a t,ag h⟩
theorem Im(hu:A.units<ade)(hJ: ∀a o,y.J a=some o->s.heap.get? a=some o)(v:V)(b:Bool)(w:Value)(h:Dk v=some b)(hw:az y v w):EqAt A s w .none (gN w)/\gN w=b:=by
 cases v with
 |none=>cases hw;cases ag (h);exact ⟨EqAt.same _,rfl⟩
 |tup p=>obtain ⟨xs,k,_⟩:=hw;cases ag (h);induction k with|mk a b c=>exact ⟨EqAt.tuple_none ⟨_,hJ _ _ a,b,_,c⟩ hu,rfl⟩
 |_=>exact bw h
end
noncomputable abbrev DX(ne:Bool):CmpOp:=cond ne .NotIn .In
section
variable{prog:Program}{w:abR}{A:Around}{E:Value->Shared->Prop}{s:Shared}{Q:Value->Shared->Prop}{x:Value}{ne r:Bool}
theorem DY(h:s.heap.IsList a xs\/s.heap.IsTuple a xs)(he:(∀w∈xs.toList,EqAt A.in1 s w x (g w))/\xs.toList.any g=r)(hq:Q (.bool (cond ne (!r) r)) s):ax (abJ prog w) A (abY (DX ne) x (.ref a)) Q E s:=by
 obtain ⟨he,rfl⟩:=he;have he: ∀y,y∈xs->EqAt A.in1 s y x (g y):=λy hy=>he y (vw.mpr hy);rw [Array.any_toList] at hq;rcases h with h|h
 ·rcases ne with _|_
  ·exact in_listAt _ h he hq
  ·exact notIn_listAt _ h he hq
 ·rcases ne with _|_
  ·exact in_tupleAt _ h he hq
  ·exact notIn_tupleAt _ h he hq
theorem in_dict(hx:az y (.str k) x)(hs:(a==adk)=false)(he:fN w.params y kvs es)(hD:s.heap.DictOf (ed prog w) a (gF kvs es))(hq: ∀t,Q (.bool (cond ne (!kD k kvs) (kD k kvs))) {s with toks:=t}):ax (abJ prog w) A (abY (DX ne) x (.ref a)) Q E s:=by
 obtain ⟨t,rfl⟩:=hx;have hr:(ada (gF kvs es) (strOf k)).isSome=kD k kvs:=by
  unfold kD;cases q:bX k kvs with
  |none=>rw [pH he q];rfl
  |some u=>obtain ⟨y,a,_⟩:=kP he q;rw [a];rfl
 rw [<-hr] at hq;rcases ne with _|_
 ·exact wpAny_in_of (cR _ _) hs hD.mapOf (hq _)
 ·exact wpAny_notIn_of (cR _ _) hs hD.mapOf (hq _)
end
section
variable{C:Cx}{z:Z C}{d e:D}{x y:Value}{r:Bool}{Q E:Value->Shared->Prop}
theorem DZ(P:abK):(bq P adk).isSome=true:=by kernel_rfl
theorem Io(h:z.y.J q=none):(q==adk)=false:=beq_eq_false_iff_ne.mpr λe=>by
 obtain ⟨o,ho⟩:=xf.mp (DZ C.P);rw [e,z.I.base _ _ ho] at h;cases h
theorem eG.in(h:eG z "list" l y\/az z.y (.tup l) y)(k: ∀xs,aB z.y l xs->(∀w∈xs,EqAt C.A.in1 z.s w x (g w))/\xs.any g=r)(hq:Q (.bool (cond ne (!r) r)) z.s):ax C.M C.A (abY (DX ne) x y) Q E z.s:=by
 rcases h.imp id (eG.kept (c:="tuple")) with h|h
 ·induction h with|mk h1 h2=>exact DY (.inl h1) (k _ h2) hq
 ·induction h with|mk h1 h2=>exact DY (.inr h1) (k _ h2) hq
theorem kh.in(h:kh z kvs y)(hx:az z.y (.str k) x)(hq: ∀t,Q (.bool (cond ne (!kD k kvs) (kD k kvs))) {z.s with toks:=t}):ax C.M C.A (abY (DX ne) x y) Q E z.s:=by
 induction h with|mk hO hj=>exact hO.dictOf.elim λes h=>in_dict hx (Io hj) h.1 h.2 hq
theorem isNone{b:Bool}(h:(x== .none)=true):x=.none:=by rcases x with _|_<;>first|rfl|exact bI h
theorem D0(hu:C.A.units+1<ade)(hx:cW z d x)(hy:cW z e y)(h:inD d e=some r)(hq: ∀t,Q (.bool (cond ne (!r) r)) {z.s with toks:=t}):ax C.M C.A (abY (DX ne) x y) Q E z.s:=
 gq h (λl e1 h=>
  gq h (λa e2 h=>eG.in (hy.it e1) (λxs hl=>xY (Ik (hx.s _ e2)) hl h) (hq z.s.toks)) λh=>
  gq h (λa e2 h=>eG.in (hy.it e1) (λxs hl=>xY (Il (hx.i _ e2)) hl h) (hq z.s.toks)) λh=>
  aQ h λb e2 h=>cN h λhb h=>eG.in (g:=gN) (hy.it e1) (λxs hl=>isNone (b:=b) ((hx.n _ e2).trans hb)▸xY (Im hu λU U=>z.qZ) hl h) (hq z.s.toks)) λh=>
 aQ h λkvs e1 h=>aQ h λk e2 h=>kh.in (hy.d _ e1) (hx.s _ e2) (ag h▸hq)
theorem xZ{G:Prop}(h:HS o=some r)(k: ∀d,o=some d->r= !d->G):G:=aQ h λd e h=>k d e (by rcases d with _|_<;>exact (ag h).symm)
theorem zZ(hx:cW z d x)(hy:cW z e y)(h:WK d e=some r):y=.none/\(x== .none)=r:=aQ h λb e1 h=>cN h λhb h=>⟨isNone (b:=b) ((hy.n _ e1).trans hb),hx.n _ h⟩
theorem Ip{G:Prop}(hx:cW z d x)(hy:cW z e y)(h:Qy f d e=some r)(k: ∀i j t u,x=.int i t->y=.int j u->f i j=r->G):G:=aQ h λi e1 h=>aQ h λj e2 h=>(hx.i _ e1).elim λt a=>(hy.i _ e2).elim λu b=>k i j t u a b (ag h)
theorem D3(hu:C.A.units+8<ade)(hx:cW z d x)(hy:cW z e y)(h:Dl (jf op) d e=some r)(hq: ∀t,Q (.bool r) {z.s with toks:=t}):ax C.M C.A (abY op x y) Q E z.s:=by
 have u0:=dA (cw C.A.units 8) hu;have u1:=dA (dV (by decide:1<=8) C.A.units) hu;have Lp:=hq z.s.toks;induction op with
 |Eq=>exact Nf u0 hx hy h Lp
 |NotEq=>exact xZ h λd e q=>Ng u0 hx hy e (q▸Lp)
 |In=>exact D0 (ne:=false) u1 hx hy h hq
 |NotIn=>exact xZ h λd e q=>D0 (ne:=true) u1 hx hy e (q▸hq)
 |Is=>rw [(zZ hx hy h).1];exact is_none (by rw [(zZ hx hy h).2];exact Lp)
 |IsNot=>exact xZ h λd e q=>by rw [(zZ hx hy e).1];exact isNot_none (by rw [(zZ hx hy e).2];exact q▸Lp)
 |Lt=>exact Ip hx hy h λi j t u a b c=>by rw [a,b];exact P.lt_int (c▸Lp)
 |LtE=>exact Ip hx hy h λi j t u a b c=>by rw [a,b];exact P.le_int (c▸Lp)
 |Gt=>exact Ip hx hy h λi j t u a b c=>by rw [a,b];exact P.gt_int (c▸Lp)
 |GtE=>exact Ip hx hy h λi j t u a b c=>by rw [a,b];exact P.ge_int (c▸Lp)
end
end MP
end Mine.Lake
end
section
namespace Mine.Lake
namespace MP
open PySem PySem.W PyProof.Rows
theorem Iq(e:n=m)(g:bf n=true):(m:Int)<2^63:=e▸xi (js.mpr (fj g)) (by decide)
section
variable{sc:abL}{hb:Bool}
inductive cM{α β:Type}(P:α->β->Prop):List α->List β->Prop
 |nil:cM P [] []
 |cons {a b as bs}:P a b->cM P as bs->cM P (a::as) (b::bs)
theorem cM.len{P:α->β->Prop}{as:List α}{bs:List β}(h:cM P as bs):as.length=bs.length:=by
 induction h with
 |nil=>rfl
 |cons _ _ ih=>exact congrArg (λU=>U+1) ih
abbrev Plain(e:bp):Prop:= ∀es env,abU (e::es) env=(false,eval e env)::abU es env
abbrev Each(sc:abL)(hb:Bool):List bp->List (M R)->Prop:=cM λe m=>Plain e/\aV sc hb e m
theorem jE(h:Each sc hb es ms):Ref true Ll sc hb (λenv=>acd (ab1 pos (abU es env))) (ja ms):=by
 induction h with
 |nil=>exact λk z Q E w=>spliced_nil (w.ok' rfl z (bY.refl _ z) rfl)
 |cons h r ih=>
  intro k z Q E w;show wpAny _ _ (acd (ab1 pos (abU _ _))) _ _ _;rw [h.1];exact spliced_cons (two mT zW h.2.qM ih w λa b z' x y w U ra rb=>w.ok' rfl z' (bY.refl _ z') ⟨x,y,rfl,ra,rb⟩)
theorem aB.arr{vs:List V}(r:aB y vs xs):aB y vs xs.toArray.toList:=(List.toList_toArray ..).symm▸r
theorem Ni(h:Each sc hb es ms)(x1:Nat)(pos:Pos):aV sc hb (.Tuple es x1 pos) (aD ms):=λk z Q E w=>
 wpAny_Tuple_spliced (one (jE h) w λa z' x w U r=>w.guard λg w=>⟨r.len▸bE g,w.new.tup (Keeps.push _ _) (aN _) (da _ rfl) r.arr z'.s.toks⟩)
theorem Ir(h:Each sc hb es ms)(pos:Pos):aV sc hb (.List es pos) (eList ms):=λk z Q E w=>
 wpAny_List_spliced (one (jE h) w λa z' x w U r=>w.guard λg w=>⟨r.len▸bE g,w.new.DR r.arr z'.s.toks⟩)
abbrev kQ(sc:abL)(hb:Bool)(e:bp)(t:M Bool):Prop:=Ref true kM sc hb (λenv=>acn e env (eval e env)) t
theorem Kx.cl(k:Kx sc hb):k.C.A.units+8<ade:=dA (eM (bt (cw _ _) k.units) 8) (by decide)
theorem pI{k:Kx sc hb}{z:Z k.C}{Q:Bool->Shared->Prop}{K E E':Value->Shared->Prop}(W:Po w kM z (sR (jf op) (den a z.ρ z.H) (den b z.ρ z.H) k.cf z.ρ z.H) Q E')(ha:bK k.C z a x)(hb:bK k.C z b y)
  (hK: ∀r t,Q r {z.s with toks:=t}->K (.bool r) {z.s with toks:=t}):wpAny k.M k.A (abY op x y) K E z.s:=Po.opt (zU k.hcf.bi _▸W) λr e W=>Kl<|D3 k.cl (rd ha) (rd hb) e λt=>hK r t (W.bool t)
section
variable{l r:bp}{op:CmpOp}{ml mr:M R}(hl:aV sc hb l ml)(hr:aV sc hb r mr)(hS: ∀op,acU op r=false)
include hl hr hS
theorem Iu(pos:Pos):kQ sc hb (.Compare l [op] [r] pos) (ay (jf op) ml mr):=λk z Q E w=>
 wpAny_isTrue_Compare1 (two dm fH hl hr w λa b z' x y w U ha hb=>pI w ha hb λr t h=>Kl<|acx h) (hS _)
theorem Iv(pos:Pos):aV sc hb (.Compare l [op] [r] pos) (bT (ay (jf op) ml mr)):=λk z Q E w=>
 wpAny_Compare1 (two dm fH hl hr (w.first (dN:=kM) (K:=λx=>Q (.bool x)) (λh=>h) λa z' x w U e=>e▸w.new.val (x:=.bool a) rfl z'.s.toks) λa b z' x y w U ha hb=>pI w ha hb λr t h=>h) (hS _)
end
theorem D4(hl:aV sc hb l ml)(hm:aV sc hb m mm)(hr:aV sc hb r mr)(hS: ∀op,acU op r=false)(pos:Pos):kQ sc hb (.Compare l [op,op'] [m,r] pos) (o5 (jf op) (jf op') ml mm mr):=by
 intro k z Q E w;have em:markedEach [op,op'] [m,r] [eval m k.C.env,eval r k.C.env]=[eval m k.C.env,eval r k.C.env]:=by
  show eval m _::[markedBehindIn op' r (eval r _)]=_;rw [acQ (hS op')]
 show wpAny _ _ (do testChain pos (<-eval l k.C.env) [op,op'] (markedEach [op,op'] [m,r] [eval m k.C.env,eval r k.C.env])) _ _ _;rw [em];refine wpAny_bind (wpAny_mono (two (K:=λx y=>wpAny k.M k.A (do
   let c <-ab7 [x,y] (abY op x y)
   release [x,y] [c]
   if <-ab7 [c,y] (adg c) then testChain pos y [op'] [eval r k.C.env] else pure false) Q E) dm fH hl hm w λa b z' x y w U ha hb=>?_) (λx s₁ h=>?_) λU U h=>h)
 ·have w:Po true kM z' ((sR (jf op) (den a z'.ρ z'.H) (den b z'.ρ z'.H) k.cf z'.ρ z'.H).bind _) Q E:=w;rw [zU k.hcf.bi] at w;refine w.WV λd e w=>(fm (Kl<|D3 k.cl (rd ha) (rd hb) e λt=>wpAny_bind (Kl<|adZ ((fm (Kl<|acx ?_))))));obtain ⟨I,A⟩:=z'.tok t;induction d with
  |false=>exact wpAny_pure (w.ok' rfl _ A.lax rfl)
  |true=>
   have hb2:bK k.C ⟨z'.y,z'.ρ,z'.H,{z'.s with toks:=t},I⟩ b y:=by
    induction b with
    |val v=>exact hb
    |own o=>exact hb
    |slot i=>exact A.v rfl i y hb
   show wpAny _ _ (do let rv <-ab7 [y] (eval r k.C.env);ab8 pos;let c <-operate [y,rv] (abY op' y rv);ab7 [c] (adg c)) _ _ _;exact (fm (snd (z:=⟨z'.y,z'.ρ,z'.H,{z'.s with toks:=t},I⟩) dm fH hr hb2 (w.mH A.lax) λc z2 v w2 U rb rc=>(cX (wpAny_bind (so (pI w2 rb rc λr t h=>wpAny_holding (Kl<|acx h)))))))
 ·show wpAny _ _ (do let rv <-ab7 [x] (eval m k.C.env);ab8 pos;_) _ _ s₁;exact (fm (wpAny_mono h (λy s₂ h=>(cX h)) λU U h=>h))
theorem Iw(h:kQ sc hb x t)(pos:Pos):kQ sc hb (.UnaryOp .Not x pos) (jb t):=λk z Q E w=>
 wpAny_isTrue_Not (one h w λa z' x w U e=>w.ok' rfl z' (bY.refl _ z') (by rcases e with _|_;rcases a with _|_<;>rfl))
theorem vD{k:Kx sc hb}{z:Z k.C}{Q:Bool->Shared->Prop}{P1 P2:Prop}(e:kM k.C z a b)(w:Po true kM z (cond a x y) Q E)(h:Po true kM z x Q E->P1)(h':Po true kM z y Q E->P2):if b=true then P1 else P2:=by
 rcases e with _|_;rcases a with _|_
 ·exact h' w
 ·exact h w
theorem Iz(h:cM (kQ sc hb) es ts)(pos:Pos):kQ sc hb (.BoolOp .And es pos) (kE ts):=λk z Q E w=>wpAny_isTrue_BoolOp (by
 induction h generalizing z with
 |nil=>exact Kl<|wpAny_allTrue_And_nil (w.ok' rfl z (bY.refl _ z) rfl)
 |cons h _ ih=>exact wpAny_allTrue_And_cons (one h w λa z' x w U e=>vD e w (λw=>ih z' w) λw=>w.ok' rfl z' (bY.refl _ z') rfl))
theorem Nj(h:cM (kQ sc hb) es ts)(pos:Pos):kQ sc hb (.BoolOp .Or es pos) (Hj ts):=λk z Q E w=>wpAny_isTrue_BoolOp (by
 induction h generalizing z with
 |nil=>exact Kl<|wpAny_allTrue_Or_nil (w.ok' rfl z (bY.refl _ z) rfl)
 |cons h _ ih=>exact wpAny_allTrue_Or_cons (one h w λa z' x w U e=>vD e w (λw=>w.ok' rfl z' (bY.refl _ z') rfl) λw=>ih z' w))
theorem Nk{mt:M Bool}(ht:kQ sc hb t mt)(h1:aV sc hb b mb)(h2:aV sc hb o mo)(pos:Pos):aV sc hb (.IfExp t b o pos) (iW mt mb mo):=λk z Q E w=>
 wpAny_IfExp (one ht w λa z' x w U e=>by
  rcases e with _|_;induction a with
  |true=>exact h1 k z' Q E w
  |false=>exact h2 k z' Q E w)
theorem Nl{z:Z C}{Q:Bool->Shared->Prop}(hx:cW z d x)(h:Ri d=some b)(hq: ∀t,Q b {z.s with toks:=t}):ax C.M C.A (adg x) Q E z.s:=
 gq h (λb e h=>by rw [hx.b _ e];exact acx (ag h▸hq z.s.toks)) λh=>aQ h λl e h=>cN h λg h=>by
  have hl:=hx.l _ e;induction hl with|mk h1 h2=>
  rename_i xs
  have en:xs.isEmpty=l.isEmpty:=by
   have:=di h2
   induction l with
   |nil=>exact decide_eq_true this.symm
   |cons=>exact decide_eq_false λh=>DD _ (this.trans h)
  refine wpAny_truthy_list h1 (Iq (di h2) g) ?_;rw [en,show (!l.isEmpty)=b by rw [<-ag h];rcases l with _|_<;>rfl];exact hq _
theorem IB(h:aV sc hb e m)(he: ∀env whole,acn e env whole=(do let v <-whole;ab8 e.pos;ab7 [v] (adg v))):kQ sc hb e (eg m):=λk z Q E w=>
 wpAny_isTrue_value (one h w λa z' x w U hr=>w.opt λb e w=>Kl<|Nl (rd hr) e λt=>w.bool t) (he _ _)
theorem rK{k:Kx sc hb}{z:Z k.C}{m:M R}{op:BoolOp}(hop:op=cond b .And .Or)(hr:bK k.C z a x)(w:Po true bK z (oB (den a z.ρ z.H).b λd=>cond d (cond b (m k.cf z.ρ z.H) (.ok (.val (.bool true)) z.ρ z.H)) (cond b (.ok (.val (.bool false)) z.ρ z.H) (m k.cf z.ρ z.H))) Q E)
  (ih:Po true bK z (m k.cf z.ρ z.H) Q E->wpAny k.M k.A rest Q E z.s):wpAny k.M k.A (do ab8 pos;let t <-ab7 [x] (adg x);match op,t with| .And,false| .Or,true=>pure x|_,_=>rest) Q E z.s:=w.opt λd e w=>by
 rw [(rd hr).b _ e,hop];refine (cX ((fm (Kl<|acx ?_))));rcases b with _|_<;>rcases d with _|_<;>first|exact ih w|exact wpAny_pure (w.new.val (x:=.bool _) rfl z.s.toks)
theorem IC(h:cM (aV sc hb) es ms)(pos:Pos):aV sc hb (.BoolOp .And es pos) (o6 ms):=by
 show Ref true bK sc hb (λenv=>boolOp pos .And (evalEach es env)) (o6 ms);induction h with
 |nil=>exact Ref.bad
 |cons h r ih=>induction r with
  |nil=>exact h
  |cons h2 r=>exact λk z Q E w=>wpAny_bind (one h w λa z' x w U hr=>rK (b:=true) rfl hr w (ih k z' Q E))
theorem Nm(h:cM (aV sc hb) es ms)(pos:Pos):aV sc hb (.BoolOp .Or es pos) (Qz ms):=by
 show Ref true bK sc hb (λenv=>boolOp pos .Or (evalEach es env)) (Qz ms);induction h with
 |nil=>exact Ref.bad
 |cons h r ih=>induction r with
  |nil=>exact h
  |cons h2 r=>exact λk z Q E w=>wpAny_bind (one h w λa z' x w U hr=>rK (b:=false) rfl hr w (ih k z' Q E))
end
theorem bits_le{i:Int}(h:i.natAbs<2^k):wb i<=k:=by
 unfold wb;by_cases h0:i=0
 ·rw [if_pos (beq_iff_eq.mpr h0)];exact v3 _
 ·rw [if_neg λe=>h0 (beq_iff_eq.mp e)];exact (aaH λe=>h0 (H4.mp e)).mpr h
theorem vE{i:Int}:wb i<=i.natAbs.log2+1:=bits_le Nat.lt_log2_self
theorem pJ{i:Int}(h:small i=true):wb i<=64:=bits_le (aZ h)
theorem D5(h:lD a b=true):IntMulOk a b:=by
 rcases vA h with ⟨q,_⟩|⟨_,h⟩
 ·exact .of_right (pJ q)
 ·rcases vA h with ⟨q,_⟩|⟨_,h⟩
  ·exact .of_left (pJ q)
  ·exact .of_le vE vE (by have:=aZ h;lia)
theorem vF(h:jZ b=true):b≠0/\ ∀a, ¬(Builtin.divisionGoesByPylong a b)=true:=gz h λq h=>by
 have h0:b≠0:=of_decide_eq_false (oh (b:=true) h).1;refine ⟨h0,λa ha=>?_⟩;have hl:b.natAbs.log2<8000:=(aaH (λe=>h0 (H4.mp e))).mpr (aZ q);have ha:(if (b==0)=true then 0 else b.natAbs.log2/30+1)>300:=of_decide_eq_true (eJ.mp ha).1;rw [if_neg λe=>h0 (beq_iff_eq.mp e)] at ha;exact absurd (ey ha (sa (Nat.div_le_div_right (kp hl)))) (by decide)
section
variable{prog:Program}{w:abR}{A:Around}{E:Value->Shared->Prop}{s:Shared}{Q:Value->Shared->Prop}{a b r:Int}{t u:Tok}
theorem Nn(h:rt a b=true)(hq: ∀k,Q (.int (a^b.toNat) k) {s with toks:=s.toks+1}):ax (abJ prog w) A (acM .Pow (.int a t) (.int b u)) Q E s:=
 gz h λq1 h=>gz h λq2 h=>gz h λq3 q4=>by
  have b0:=of_decide_eq_true q1;by_cases h0:b=0
  ·subst h0;exact AutoIntOps.pow_0 b0 rfl (Int.pow_zero a▸show Q (.int (a^0) s.toks) _ from hq s.toks)
  ·have e: ∀x:Int,x<2-> ¬(a==x)=true:=λx hx e=>absurd (beq_iff_eq.mp e▸hx) (ro.mpr (of_decide_eq_true q2));refine AutoIntOps.pow_4 b0 (λe=>h0 (beq_iff_eq.mp e)) (λe'=>(Y2.mp e').elim (e 0 (by decide)) (e 1 (by decide))) (e (-1) (by decide)) ?_ (hq _);rw [decide_eq_true_eq];exact ro.mpr (u3 (Int.mul_le_mul (kV.mpr (bits_le (aZ q4))) (u3 Yf (kV.mpr (kp (aZ q3)))) b0 (by decide)) (by decide))
theorem RI(h:jZ b=true): ¬(b==0)=true:=λe=>(vF h).1 (beq_iff_eq.mp e)
theorem D6(h:intOp o a b=some r)(hq: ∀k,Q (.int r k) {s with toks:=s.toks+1}):ax (abJ prog w) A (acM (MY o) (.int a t) (.int b u)) Q E s:=by
 have go: ∀{x},some x=some r->Q (.int x s.toks) {s with toks:=s.toks+1}:=λh=>ag h▸hq _;induction o with
 |add=>exact AutoIntOps.add_0 (go h)
 |sub=>exact AutoIntOps.sub_0 (go h)
 |mul=>exact cN h λq h=>AutoIntOps.mul_0 (go h) (D5 q)
 |fdiv=>exact cN h λq h=>AutoIntOps.floordiv_1 (RI q) ((vF q).2 a) (go h)
 |mod=>exact cN h λq h=>AutoIntOps.mod_1 (RI q) (go h)
 |pow=>exact cN h λq h=>Nn q λk=>ag h▸hq k
theorem rL(h: ∃o,s.heap.get? l=some o/\o.cls=.type c/\ ∃n,o.data=.seq xs n): ∃d n sl,s.heap.get? l=some {cls:=.type c,dict:=d,data:=.seq xs n,slots:=sl}:=by
 refine ae λaA=>?_;obtain ⟨⟨_,d,_,sl⟩,ho,rfl,n,rfl⟩:=h;refine aA ?_;exact ⟨d,n,sl,ho⟩
theorem ya{l b:Addr}(hl:s.heap.IsList l items)(hb:s.heap.IsList b items2)(hsz:items.size+items2.size<=abQ)
  (h:Q (.ref s.heap.objs.size) {s with heap:=s.heap.push {cls:=.type "list",data:=.seq (items++items2)}}):ax (abJ prog w) A (acM .Add (.ref l) (.ref b)) Q E s:=
 (rL hl).elim λd h1=>h1.elim λn h1=>h1.elim λsl h1=>(rL hb).elim λd2 h2=>h2.elim λn2 h2=>h2.elim λsl2 h2=>
 concat_meets ⟨_,h1,rfl⟩ ⟨_,h2,rfl⟩ noFill_list_add seq_list_add PySem.F.slot_list_add PySem.F.entry_list_add (PySem.F.args_list_add_2 _ _) (list_addW l b items items2 n n2 d d2 sl sl2 hsz) ⟨h1,h2,h⟩
end
theorem BH(n:Nat)(b:List UInt8):((abh n b).flatten).map ki=repl n (b.map ki):=by
 induction n with
 |zero=>rfl
 |succ n ih=>rw [List.replicate_succ,List.flatten_cons,th,ih];rfl
theorem aB.app(h:aB y a p)(k:aB y b q):aB y (a++b) (p++q):=by
 induction a generalizing p with
 |nil=>cases h;exact k
 |cons v a ih=>obtain ⟨x,r,rfl,hv,h⟩:=h;exact ⟨x,r++q,rfl,hv,ih h⟩
theorem BI(p q:List Nat):strOf p++strOf q=strOf (p++q):=ig (by unfold sl;rw [PySem.Str.cps_append];simp [strOf])
section
variable{prog:Program}{w:abR}{A:Around}{E:Value->Shared->Prop}{s:Shared}{Q:Value->Shared->Prop}{k:Wd}{x y:Value}{o:Op}
theorem ID{i j n:Int}(hx:az k (.int i) x)(hy:az k (.int j) y)(h:intOp o i j=some n)(hq: ∀x t,az k (.int n) x->Q x {s with toks:=t}):ax (abJ prog w) A (acM (MY o) x y) Q E s:=by
 obtain ⟨t,rfl⟩:=hx;obtain ⟨u,rfl⟩:=hy;exact D6 h λk=>hq _ _ ⟨k,rfl⟩
theorem Lq(h:isAdd o=true):MY o=.Add:=by rcases o with _|_<;>first|rfl|exact bI h
theorem RJ(h:isMul o=true):MY o=.Mult:=by rcases o with _|_<;>first|rfl|exact bI h
theorem IE(hx:az k (.str p) x)(hy:az k (.str q) y)(h:bf (p.length+q.length)=true)(hq: ∀x t,az k (.str (p++q)) x->Q x {s with toks:=t}):ax (abJ prog w) A (acM .Add x y) Q E s:=by
 obtain ⟨t,rfl⟩:=hx;obtain ⟨u,rfl⟩:=hy;exact KXadd.add (eb _) (eb _) (bt (kp (fj h)) (aw rfl)) λt' k U=>hq _ _ ⟨t',by rw [BI]⟩
theorem BJ{n:Nat}(hx:az k (.bytes p) x)(hy:az k (.int n) y)(h:band (aT p.length 17) (band (aT 0 p.length) (aT n 1048577))=true)(hq: ∀x t,az k (.bytes (repl n p)) x->Q x {s with toks:=t}):ax (abJ prog w) A (acM .Mult x y) Q E s:=by
 obtain ⟨bb,t,rfl,rfl⟩:=hx;obtain ⟨u,rfl⟩:=hy;refine gz h λg1 h=>gz h λg2 g3=>?_;rw [df] at g1 g2;exact bytes_mul_any (b:=bb.toList) (List.length_pos_iff.mp (aZ g2)) (u3 (by decide) (eI n)) (kV.mpr (og (aZ g3))) (og (aZ g1)) λt' k=>hq _ _ ⟨_,t',rfl,BH _ _⟩
end
section
variable{C:Cx}{z:Z C}{d e:D}{x y:Value}{r:R}{Q E:Value->Shared->Prop}
theorem D7(hx:eG z "list" p x)(hy:eG z "list" q y)(h:bf (p.length+q.length)=true)(N:kO z (.own (.list (p++q))) Q):ax C.M C.A (acM .Add x y) Q E z.s:=by
 induction hx with|mk h1 k1=>induction hy with|mk h2 k2=>
 exact ya h1 h2 (by rw [<-di k1, <-di k2];exact bE h) (N.DR (by rw [wd];exact k1.app k2) z.s.toks)
theorem kO.v{v:V}(N:kO z r Q)(h:some (R.val v)=some r)(x:Value)(t:Nat)(hx:az z.y v x):Q x {z.s with toks:=t}:=(N.to h).val hx t
theorem Np(hx:cW z d x)(hy:cW z e y)(h:Di o d e=some r)(N:kO z r Q):ax C.M C.A (acM (MY o) x y) Q E z.s:=
 gq h (λi e1 h=>aQ h λj e2 h=>aQ h λn e3 h=>ID (hx.i _ e1) (hy.i _ e2) e3 (N.v h)) λh=>
 gq h (λi e1 h=>aQ h λj e2 h=>cN h λg1 h=>cN h λg2 h=>Lq g1▸IE (hx.s _ e1) (hy.s _ e2) g2 (N.v h)) λh=>
 gq h (λi e1 h=>aQ h λj e2 h=>aQ h λn e3 h=>cN h λg1 h=>cN h λg2 h=>RJ g1▸BJ (hx.y _ e1) (lT e3▸hy.i _ e2) g2 (N.v h)) λh=>
 aQ h λi e1 h=>aQ h λj e2 h=>cN h λg1 h=>cN h λg2 h=>Lq g1▸D7 (hx.l _ e1) (hy.l _ e2) g2 (N.to h)
theorem Nu{i:Int}(hx:az z.y (.int i) x)(hq: ∀x t,az z.y (.int (-i)) x->Q x {z.s with toks:=t}):ax C.M C.A (unaryOp .USub x) Q E z.s:=by
 obtain ⟨t,rfl⟩:=hx;exact P.neg_int (hq _ _ ⟨_,rfl⟩)
end
section
variable{sc:abL}{hb:Bool}
theorem Po.bin{z:Z C}{G:Prop}(w:Po b bK z (MI o d e cf z.ρ z.H) Q E)(B:Bi cf)(h: ∀v,Di o d e=some v->Po b bK z (.ok v z.ρ z.H) Q E->G):G:=Po.opt (HZ B o▸w) h
theorem IF(hl:aV sc hb l ml)(hr:aV sc hb r mr)(pos:Pos):aV sc hb (.BinOp l (MY o) r pos) (aE o ml mr):=λk z Q E w=>
 wpAny_BinOp (two dm fH hl hr w λa b z x y w U ha hb=>Po.bin w k.hcf.bi λv e w=>Kl<|Np (rd ha) (rd hb) e w.new)
theorem IG(h:aV sc hb x m)(pos:Pos):aV sc hb (.UnaryOp .USub x pos) (sP m):=λk z Q E w=>
 wpAny_UnaryOp (one h w λa z x w U hr=>w.opt λv e w=>aQ e λi e1 h=>Kl<|Nu ((rd hr).i _ e1) (w.new.v h))
end
noncomputable def BK(o:Option Obj):ClassData:=match o with|some ⟨_,_,.cls cd,_⟩=>cd|_=>default
noncomputable def RK(o:Option Obj)(i:Nat):Option Value:=match o with|some o=>(o.slots[i]?).getD none|none=>none
noncomputable def Vh(o:Option Obj):Option Addr:=match o with|some o=>o.dict|none=>none
noncomputable def W6(o:Option Obj):Array ab3:=match o with|some ⟨_,_,.dict es _,_⟩=>es|_=> #[]
noncomputable def epO(o:Option Obj):Nat:=match o with|some ⟨_,_,.dict _ ep,_⟩=>ep|_=>0
noncomputable def Nv(o:Option Obj):Array (Option Value):=match o with|some o=>o.slots|none=> #[]
noncomputable def RM(o:Option Obj):Value:=match o with|some o=>o.cls|none=>.none
noncomputable def Zf(o:Option Obj):FuncData:=match o with|some ⟨_,_,.func fd,_⟩=>fd|_=>default
abbrev Lr(C:Addr)(bm:List Value)(id:String)(o:Option Obj):Obj:=adI (BK o).name (BK o).qualname C (BK o).ns (BK o).bases bm true (BK o).slotNames (BK o).subclasses (BK o).abstract (BK o).collection (Vh o) (RK o 0) (RK o 1) (RK o 2) (RK o 3) (RK o 5) id
abbrev RN(o:Option Obj):Obj:=⟨.type "dict",Vh o,.dict (W6 o) (epO o),Nv o⟩
abbrev RO(o:Option Obj):Obj:=⟨.type "function",Vh o,.func (Zf o),Nv o⟩
noncomputable def mW:Value->Addr| .ref a=>a|_=>0
noncomputable def II:Value->Bool| .str .. =>true|_=>false
theorem ai{α β:Type}{f g:α->β}{l:List α}(h:l.map f=l.map g){x:α}(hx:x∈l):f x=g x:=List.map_inj_left.mp h x hx
theorem dQ(h:aU l i=some a):a∈l:=by rw [cL] at h;exact List.mem_of_getElem? h
theorem lU{v:α}{l:List (List Nat×α)}(h:bX k l=some v):(k,v)∈l:=by
 induction l with
 |nil=>exact bw h
 |cons a l ih=>
  change cond (bP k a.1) (some a.2) (bX k l)=some v at h;cases q:bP k a.1 with
  |true=>rw [q] at h;cases ag (h);rw [dP q];exact bj
  |false=>rw [q] at h;exact cb _ (ih h)
theorem vG{d:Addr}(hd:d∈l)(c:Nat):(aU l c).getD d∈l:=by
 cases q:aU l c with
 |none=>exact hd
 |some a=>exact dQ q
theorem ir(c:Nat):dM c∈kK:=by unfold dM;exact vG bj c
theorem tE(c:Nat):cB c∈vt:=by unfold cB;exact vG bj c
noncomputable def Ls:List Addr:=[320,172,125,198,915,1047,72,84,96,47,319,171,124,197,914,1046,71,83,95,46]
@[irreducible] def cG (P:abK):Frag:=Ls.filterMap λa=>(bq P a).map λo=>(a,o)
theorem z8(h:(cG P).lookup a=some o):bq P a=some o:=by
 unfold cG at h;generalize Ls=l at h;induction l with
 |nil=>exact bw h
 |cons b l ih=>
  rw [wi] at h;cases q:bq P b with
  |none=>rw [q] at h;exact ih h
  |some x=>
   rw [q] at h;simp only [Option.map_some,mx] at h;cases e:a==b with
   |true=>rw [e] at h;cases ag (h);rw [eq_of_beq e];exact q
   |false=>rw [e] at h;exact ih h
section
variable(P:abK)
abbrev pK(c:Nat):Addr:=(BK (bq P (dM c))).ns
def Hq:List Addr:=abN::abW::kK.map λC=>(BK (bq P C)).ns
@[irreducible] def ko (a:Addr):Str->Option Value:=acv (W6 (bq P a))
theorem IJ:kK.map (bq P)=kK.map λC=>some (Lr C [.type "object"] "object.__new__" (bq P C)):=by kernel_rfl
theorem IK:kK.map (λC=>(BK (bq P C)).abstract)=kK.map λU=>false:=by kernel_rfl
theorem IL:vt.map (bq P)=vt.map λC=>some (Lr C [.ref 47,.type "Exception",.type "BaseException",.type "object"] "Exception.__new__" (bq P C)):=by kernel_rfl
theorem Nx:(Hq P).map (bq P)=(Hq P).map λa=>some (RN (bq P a)):=by kernel_rfl
theorem IM:((Hq P).all λa=>(W6 (bq P a)).toList.all λe=>II e.key)=true:=by kernel_rfl
theorem IP:kK.map (λC=>bx.map λl=>ab4 (cG P) (.ref C) (strOf l))=kK.map λU=>bx.map λU=>some none:=by kernel_rfl
theorem z9:kK.map (λC=>(ab4 (cG P) (.ref C) "__getattribute__",(clsIn (cG P) C).map (λU=>U.hasDict)))=kK.map λU=>(some (some (.builtin "object.__getattribute__")),some true):=by kernel_rfl
theorem Ny:vt.map (λC=>(ab4 (cG P) (.ref C) "what",ab4 (cG P) (.ref C) "__getattribute__",ab4 (cG P) (.ref C) "__getattr__",(clsIn (cG P) C).map (λU=>U.hasDict)))=vt.map λU=>(some none,some (some (.builtin "BaseException.__getattribute__")),some none,some true):=by kernel_rfl
theorem Nz:bx.map (λl=>aee "object" (strOf l))=bx.map λU=>some none:=by kernel_rfl
theorem NB:kK.map (λC=>((ei "__setattr__")::(ei "__getattribute__")::(ei "__getattr__")::bx.map strOf).map λx=>ko P (BK (bq P C)).ns x)=kK.map λU=>((ei "__setattr__")::(ei "__getattribute__")::(ei "__getattr__")::bx.map strOf).map λU=>none:=by kernel_rfl
theorem lV(c:Nat):bq P (dM c)=some (Lr (dM c) [.type "object"] "object.__new__" (bq P (dM c))):=ai (IJ P) (ir c)
theorem IQ(c:Nat):(BK (bq P (dM c))).abstract=false:=ai (IK P) (ir c)
theorem iu(c:Nat):bq P (cB c)=some (Lr (cB c) [.ref 47,.type "Exception",.type "BaseException",.type "object"] "Exception.__new__" (bq P (cB c))):=ai (IL P) (tE c)
theorem tF(h:II x=true): ∃n t,x=.str n t:=by
 induction x with
 |str n t=>exact ⟨n,t,rfl⟩
 |_=>exact bI h
theorem W7(h:a∈Hq P):C1 (bq P) a (ko P a):=
 .mk (ai (Nx P) h) rfl rfl (λe he=>tF (fi.mp (fi.mp (IM P) _ h) e (by simpa using he))) λn=>by unfold ko;rfl
theorem tH(c:Nat):C1 (bq P) (pK P c) (ko P (pK P c)):=W7 P (cb _ (cb _ (dy.mpr ⟨_,ir c,rfl⟩)))
theorem Aa{α β γ:Type}{l:List α}{f:α->β}{g:α->γ}{b:β}{c:γ}(h:l.map (λx=>(f x,g x))=l.map λU=>(b,c)){x:α}(hx:x∈l):f x=b/\g x=c:=⟨congrArg (λU=>U.1) (ai h hx),congrArg (λU=>U.2) (ai h hx)⟩
theorem RP(c:Nat)(h:aU bx k=some (sl x)):ab4 (cG P) (.ref (dM c)) x=some none:=by
 have:=ai (ai (IP P) (ir c)) (dQ h)
 rwa [b9] at this
theorem RQ(c:Nat):ab4 (cG P) (.ref (dM c)) "__getattribute__"=some (some (.builtin "object.__getattribute__")):=(Aa (z9 P) (ir c)).1
theorem map_some{α β:Type}{o:Option α}{f:α->β}{b:β}(h:o.map f=some b): ∃a,o=some a/\f a=b:=eR.mp h
theorem RS(c:Nat): ∃cd,clsIn (cG P) (dM c)=some cd/\cd.hasDict=true:=map_some (Aa (z9 P) (ir c)).2
theorem Lu(c:Nat):ab4 (cG P) (.ref (cB c)) "what"=some none/\ab4 (cG P) (.ref (cB c)) "__getattribute__"=some (some (.builtin "BaseException.__getattribute__"))/\ab4 (cG P) (.ref (cB c)) "__getattr__"=some none/\ ∃cd,clsIn (cG P) (cB c)=some cd/\cd.hasDict=true:=by
 have h:=ai (Ny P) (tE c);exact ⟨congrArg (λU=>U.1) h,congrArg (λU=>U.2.1) h,congrArg (λU=>U.2.2.1) h,map_some (congrArg (λU=>U.2.2.2) h)⟩
theorem Ab(c:Nat)(h:x∈(ei "__setattr__")::(ei "__getattribute__")::(ei "__getattr__")::bx.map strOf):ko P (pK P c) x=none:=ai (ai (NB P) (ir c)) h
theorem RT(c:Nat)(h:aU bx k=some (sl x)):ko P (pK P c) x=none:=Ab P c (cb _ (cb _ (cb _ (dy.mpr ⟨_,dQ h,b9 x⟩))))
theorem RU(h:aU bx k=some (sl x)):ab5 (.type "object") x=pure none:=by
 have:=ai Nz (dQ h)
 rw [b9] at this;rw [abT,abO,this]
theorem NC:kg.map (λe=>ko P (pK P e.2.2) (strOf e.1))=kg.map λe=>some (.ref (mW (pq e.2.1))):=by kernel_rfl
theorem ND:kg.map (λe=>pq e.2.1)=kg.map λe=>.ref (mW (pq e.2.1)):=by kernel_rfl
theorem NF:kg.map (λe=>bq P (mW (pq e.2.1)))=kg.map λe=>some (RO (bq P (mW (pq e.2.1)))):=by kernel_rfl
theorem NG:kg.map (λe=>((aee "object" (strOf e.1)).isSome,bx.any λl=>bP l e.1))=kg.map λU=>(true,false):=by kernel_rfl
noncomputable def QC:List Nat×GV->Option (List Nat×Nat)|(x,.fn k)=>some (x,k)|_=>none
noncomputable def W8:List Nat×GV->Option (List Nat×Nat)|(x,.bi k)=>some (x,k)|_=>none
noncomputable def NH:List Nat×GV->Option (List Nat×V)|(x,.val k)=>some (x,k)|_=>none
noncomputable def RV(o:Option Obj):Bool:=match o with|some ⟨_,_,.func _,_⟩=>true|_=>false
noncomputable def rM:Nat->Option Value
 |0=>some (.builtin "len")|1=>some (.builtin "abs")|2=>some (.builtin "max")|3=>some (.type "int")|4=>some (.type "tuple")|5=>some (.type "bytes")
 |6=>some (.type "bytearray")|7=>some (.type "list")|8=>some (.builtin "sorted")|9=>some (.type "range")|10=>some (.type "zip")|11=>some (.type "enumerate")|_=>none
theorem NI:(fL.filterMap QC).map (λe=>ko P abN (strOf e.1))=(fL.filterMap QC).map λe=>some (.ref (mW (pq e.2))):=by kernel_rfl
theorem NJ:(fL.filterMap QC).map (λe=>pq e.2)=(fL.filterMap QC).map λe=>.ref (mW (pq e.2)):=by kernel_rfl
theorem NK:((fL.filterMap QC).all λe=>cond (RV (bq P (mW (pq e.2)))) true (kK.any (bo (mW (pq e.2)))))=true:=by kernel_rfl
theorem NL:(fL.filterMap W8).map (λe=>(ko P abN (strOf e.1),ko P abW (strOf e.1)))=(fL.filterMap W8).map λe=>(none,rM e.2):=by kernel_rfl
theorem IS:gw.map (λe=>ko P abN (strOf e.1))=gw.map λe=>some (.ref (cB e.2)):=by kernel_rfl
noncomputable def W9(x y:String):Bool:=decide (x=y)
def NN(o:Option Obj):Option (List Value):=match o with|some ⟨.type c,_,.seq xs _,_⟩=>gg (W9 c "tuple") (some xs.toList)|_=>none
theorem Ac(h:NN (L a)=some l):qT L "tuple" (.ref a) l:=by
 cases q:L a with
 |none=>rw [q] at h;exact bw h
 |some o=>
  rw [q] at h;obtain ⟨c,d,dt,s⟩:=o;induction c with
  |type c=>induction dt with
   |seq xs ep=>obtain ⟨e,h⟩:=rI h;cases of_decide_eq_true e;cases ag (h);exact .mk q rfl rfl
   |_=>exact bw h
  |_=>exact bw h
noncomputable def IT{α β:Type}(f:α->Option β):List α->Option (List β)
 |[]=>some []
 |a::r=>bb (f a) λb=>bb (IT f r) λl=>some (b::l)
noncomputable def Vi(B:Look):Nat->Value->Option V
 |0,_=>none
 |n+1,x=>match x with
  | .int i _=>some (.int i)
  | .str s _=>some (.str (sl s))
  | .bytes b _=>some (.bytes (b.toList.map ki))
  | .none=>some .none
  | .bool b=>some (.bool b)
  | .ref a=>bb (NN (B a)) λxs=>bb (IT (Vi B n) xs) λvs=>some (.tup vs)
  |_=>none
theorem Ad(hf: ∀x v,f x=some v->az y v x)(h:IT f r=some l):aB y l r:=by
 induction r generalizing l with
 |nil=>cases ag (h);rfl
 |cons x r ih=>exact aQ h λv e1 h=>aQ h λvs e2 h=>by cases ag (h);exact ⟨x,r,rfl,hf _ _ e1,ih e2⟩
theorem D8(hB: ∀a o,B a=some o->y.J a=some o)(n:Nat): ∀x v,Vi B n x=some v->az y v x:=by
 induction n with
 |zero=>exact λU U h=>bw h
 |succ n ih=>
  intro x v h;induction x with
  |int j t=>rcases h with _|_;exact ⟨t,rfl⟩
  |str s t=>rcases h with _|_;exact ⟨t,congrArg (λU=>xk U t) (b9 s).symm⟩
  |bytes b t=>rcases h with _|_;exact ⟨b,t,rfl,rfl⟩
  |none=>cases ag (h);rfl
  |bool b=>cases ag (h);rfl
  |ref a=>exact aQ h λxs q h=>aQ h λvs e h=>by cases ag (h);exact ⟨xs,(Ac q).mono hB,Ad ih e⟩
  |_=>exact bw h
theorem NO:(fL.filterMap NH).map (λe=>bb (ko P abN (strOf e.1)) (Vi (bq P) 4))=(fL.filterMap NH).map λe=>some e.2:=by kernel_rfl
theorem D9{α:Type}{f:List Nat×GV->Option α}{a:α}(h:bX (sl x) fL=some g)(e:f (sl x,g)=some a):a∈fL.filterMap f:=H5.mpr ⟨_,lU h,e⟩
theorem RW(h:bX (sl x) fL=some (.fn k)):ko P abN x=some (pq k)/\ ∃f,pq k=.ref f/\((∃o fd,bq P f=some o/\o.data=.func fd)\/ ∃c,f=dM c):=by
 have hm:=D9 (f:=QC) (a:=(sl x,k)) h rfl;have h1:=ai (NI P) hm;have h2:=ai NJ hm;have h3:=fi.mp (NK P) _ hm;dsimp only at h1 h2 h3;rw [b9, <-h2] at h1;refine ⟨h1,_,h2,?_⟩;generalize mW (pq k)=f at h3 ⊢;rcases vA h3 with ⟨q,_⟩|⟨_,q⟩
 ·generalize bq P f=o at q ⊢;induction o with
  |none=>exact bI q
  |some o=>obtain ⟨c,d,dt,s⟩:=o;rcases dt with _|_<;>first|exact .inl ⟨_,_,rfl,rfl⟩|exact bI q
 ·obtain ⟨a,ha,q⟩:=ph.mp q;rw [cq q];obtain ⟨c,hc⟩:=Fm.mp ha;exact .inr ⟨c,by unfold dM;rw [cL,hc];rfl⟩
theorem RX(h:bX (sl x) fL=some (.bi n)):ko P abN x=none/\ko P abW x=rM n:=by
 have h1:=ai (NL P) (D9 (f:=W8) (a:=(sl x,n)) h rfl);dsimp only at h1;rw [b9] at h1;exact ⟨congrArg (λU=>U.1) h1,congrArg (λU=>U.2) h1⟩
theorem NP(hB: ∀a o,bq P a=some o->y.J a=some o)(h:bX (sl x) fL=some (.val v)): ∃u,ko P abN x=some u/\az y v u:=
 aQ (ai (NO P) (D9 (f:=NH) (a:=(sl x,v)) h rfl)) λu e h=>⟨u,(b9 x▸e:_),D8 hB 4 _ _ h⟩
theorem Ea(h:bX (sl x) gw=some k):ko P abN x=some (.ref (cB k)):=by
 have h1:=ai (IS P) (lU h);dsimp only at h1
 rwa [b9] at h1
theorem tK:C1 (bq P) abN (ko P abN):=W7 P bj
theorem Eb:C1 (bq P) abW (ko P abW):=W7 P (cb _ bj)
end
end MP
end Mine.Lake
end
section
namespace Mine.Lake
namespace MP
open PySem PySem.W PyProof.Rows Builtin
theorem lW:Manifest.owners.lookup (String.ofList ['y','a','r','r','a','e','t','y','b'].reverse)=some Manifest.sig_bytearray:=by kernel_rfl
theorem dJ:xI "bytearray" "__getitem__" "bytearray.__getitem__":=
 .of (owner:="bytearray") (n:="__getitem__") (by rw [abT,abO];kernel_rfl) (by decide+kernel) (by decide+kernel) (by decide+kernel)
  (by first|exact .inl (by decide+kernel)|exact .inr (by decide+kernel)) (by rw [aca];kernel_rfl)
theorem gT:acj acE "bytearray.__getitem__"=some Builtin.«bytearray.__getitem__»:=acH (by kernel_rfl)
theorem iL(a b:Value):acN "bytearray.__getitem__" ⟨[a,b],[]⟩:=by
 rw [acV (id:="bytearray.__getitem__") (n:=['_','_','m','e','t','i','t','e','g','_','_']) (o:=['y','a','r','r','a','e','t','y','b']) (by kernel_rfl) lW];kernel_rfl
theorem vH:xI "bytearray" "__len__" "bytearray.__len__":=
 .of (owner:="bytearray") (n:="__len__") (by rw [abT,abO];kernel_rfl) (by decide+kernel) (by decide+kernel) (by decide+kernel)
  (by first|exact .inl (by decide+kernel)|exact .inr (by decide+kernel)) (by rw [aca];kernel_rfl)
theorem tM:acj acE "bytearray.__len__"=some Builtin.«bytearray.__len__»:=acH (by kernel_rfl)
theorem vI(a:Value):acN "bytearray.__len__" ⟨[a],[]⟩:=by
 rw [acV (id:="bytearray.__len__") (n:=['_','_','n','e','l','_','_']) (o:=['y','a','r','r','a','e','t','y','b']) (by kernel_rfl) lW];kernel_rfl
def dS(h:Heap)(a:Addr)(arr:Array UInt8):Prop:= ∃o,h.get? a=some o/\o.cls=.type "bytearray"/\o.data=.bytearray arr 0
section
variable{M:ab0}{A:Around}{E:Value->Shared->Prop}{s:Shared}
theorem eW(h:dS s.heap a arr){Q:Array UInt8->Shared->Prop}(hq:Q arr s):ax M A (Bytes.payload (.ref a)) Q E s:=by
 refine ae λaA=>?_;obtain ⟨o,h1,h2,h3⟩:=h;refine aA ?_;unfold Bytes.payload Bytes.payload?;refine bc ((ve h1 ?_));rw [h3];exact cp (cp hq)
theorem BL{i:Int}(hr:Bytes.fitsIndex i=true){Q:Option Int->Shared->Prop}(hq:Q (some i) s):ax M A (Bytes.subscript? (.int i u)) Q E s:=by
 unfold Bytes.subscript?;refine (oX (typeIs_int s i u) F.slot_int_index.lookup ?_);show ax M A (if (!Bytes.fitsIndex i)=true then _ else pure (some i)) _ E s;rw [hr];exact cp hq
end
theorem mX(a:Addr)(arr:Array UInt8)(i:Int)(u:Tok)(c:UInt8)(hr:Bytes.fitsIndex i=true)(h:(acD i arr.size).bind (λU=>arr[U]?)=some c):
  Meets (Builtin.«bytearray.__getitem__» ⟨[.ref a,.int i u],[]⟩) (λU R s=>dS s.heap a arr/\R (.ok (.ret (.int c.toNat s.toks))) {s with toks:=s.toks+1}):=
 .of_wp λprog w A R s hh=>by
  have h1:=hh.1;have h2:=hh.2;show ax _ _ (Bytes.subscript? (.int i u)>>=λr=>_) _ _ s;refine bc (BL hr ?_);refine bc (eW h1 ?_);show ax _ _ (match (acD i arr.size).bind (λU=>arr[U]?) with|some x=>retInt x.toNat|none=>_) _ _ s;rw [h];exact bc (wpAny_mkInt (cp ⟨_,rfl,h2⟩))
section
variable{prog:Program}{w:abR}{A:Around}{E:Value->Shared->Prop}{s:Shared}
theorem dS.typeIs(h:dS s.heap a arr):s.TypeIs (.ref a) "bytearray":=let ⟨o,h1,h2,_⟩:=h;⟨o,h1,h2⟩
theorem yb{i:Int}(h:dS s.heap a arr)(hr:Bytes.fitsIndex i=true)(hc:(acD i arr.size).bind (λU=>arr[U]?)=some c)
  (hq:Q (.int c.toNat s.toks) {s with toks:=s.toks+1}):ax (abJ prog w) A (getItem (.ref a) (.int i u)) Q E s:=
 getItem_meets h.typeIs (by decide) dJ gT (iL _ _) (mX a arr i u c hr hc) ⟨h,hq⟩
theorem NQ(h:dS s.heap a arr)(hfit: ¬(arr.size:Int)≥2^63)(hq:Q (.int arr.size (s.toks+1)) {s with toks:=s.toks+1+1}):
  ax (abJ prog w) A (call (.builtin "len") [.ref a]) Q E s:=by
 have g:Meets (Builtin.«bytearray.__len__» ⟨[.ref a],[]⟩) (λU R s=>dS s.heap a arr/\R (.ok (.ret (.int arr.size s.toks))) {s with toks:=s.toks+1}):=.of_wp λprog w A R s hh=>by
  have h1:=hh.1;have h2:=hh.2;show ax _ _ (Bytes.payload (.ref a)>>=λr=>_) _ _ s;exact bc (eW h1 (bc (wpAny_mkInt (cp ⟨_,rfl,h2⟩))))
 exact call_len_meets h.typeIs vH tM (vI _) g (by lia) hfit (λU hq=>⟨h,hq⟩) hq
end
theorem mY:ab5 (.type "bytearray") "__buffer__"=pure (some (.builtin "bytearray.__buffer__")):=by rw [abT,abO];kernel_rfl
theorem pL:ab5 (.type "bytearray") "__release_buffer__"=pure (some (.builtin "bytearray.__release_buffer__")):=by rw [abT,abO];kernel_rfl
theorem vJ:ab5 (.type "bytearray") "__bytes__"=pure none:=by rw [abT,abO];kernel_rfl
theorem vK:ab5 (.type "bytearray") "__index__"=pure none:=by rw [abT,abO];kernel_rfl
theorem yc:isSubtype (.type "bytearray") (.type "bytearray")=pure true:=by rw [aca];kernel_rfl
section
variable{M:ab0}{A:Around}{E:Value->Shared->Prop}{s:Shared}{a:Addr}{arr:Array UInt8}
theorem kR{name:String}{id:String}(h:dS s.heap a arr)(hl:ab5 (.type "bytearray") (name:Str)=pure (some (.builtin id)))(h1:id.endsWith ("."++name)=true)(h2:id.dropRight (name.length+1)="bytearray"){Q:Bool->Shared->Prop}(hq:Q true s):
  ax M A (Bytes.slotIsOwn (.ref a) name) Q E s:=by
 refine (oX h.typeIs hl ?_);show ax M A (if (!id.endsWith ("."++name))=true then _ else _) Q E s;rw [h1];show ax M A (acG (.ref a) (.type (id.dropRight (name.length+1)))) Q E s;rw [h2];exact acI h.typeIs yc hq
theorem rN{id:String}(h:dS s.heap a arr){Q:Option (Array UInt8)->Shared->Prop}(hq:Q (some arr) s):ax M A (Bytes.buffer? id (.ref a) full) Q E s:=by
 unfold Bytes.buffer?;refine (oX h.typeIs mY ?_);refine bc (kR h mY (by decide+kernel) (by decide+kernel) ?_);refine ach rfl ?_;refine (oX h.typeIs mY ?_);refine bc (bc (kR h pL (by decide+kernel) (by decide+kernel) (cp ?_)));refine ach rfl ?_;exact bc (eW h (cp hq))
end
section
variable{prog:Program}{w:abR}{A:Around}{E:Value->Shared->Prop}{s:Shared}{a:Addr}{arr:Array UInt8}
theorem NR(h:dS s.heap a arr)(hz:arr.size<=abQ)(hQ: ∀t k,Q (.bytes arr t) {s with toks:=k}):
  Iy (abJ prog w) A (.call (.builtin "bytes.__new__") ⟨[.type "bytes",.ref a],[]⟩) (wants Q E) s:=by
 refine SU ?_;show ax _ A.in1 (do abV "bytes.__new__" ⟨[.type "bytes",.ref a],[]⟩;again (.builtin "bytes.__new__" ⟨[.type "bytes",.ref a],[]⟩)) _ _ s;refine (Df (F.bm_newCall _) (cp ⟨adX F.bm_plain _,PySem.codeAny_builtin F.bm_entry ?_⟩));rw [FC F.bm_plain _];have hT:s.TypeIs (.ref a) "bytearray":=h.typeIs;refine ae λaA=>?_;obtain ⟨ol,RY,hoc,hod⟩:=id h;refine aA ?_;refine (Df (a:=true) rfl ?_);refine ach rfl ?_;refine (Df F.bm_sub ?_);refine ach rfl ?_;refine (Df (F.bm_bind _) ?_);refine (Df (a:=()) rfl ?_);refine (Df (a:=()) rfl ?_);refine ach rfl ?_;refine (oX hT vJ ?_);refine bc (bc ?_);show ax _ _ (load a>>=_) _ _ _;refine (ve RY ?_);rw [hod];refine cp (cp ?_);refine ach rfl ?_;refine (oX hT vK ?_);refine ac6 rfl ?_;have fin:ax (abJ prog w) A.in1 (Bytes.buffer? "bytes.__new__" (.ref a) true) (λo s'=>o=some arr/\s'=s) E s:=rN h ⟨rfl,rfl⟩;have tail: ∀{β:Type} {k:Option (Array UInt8)->Sem β} {P:β->Shared->Prop} {E':Value->Shared->Prop},ax (abJ prog w) A.in1 (k (some arr)) P E' s->ax (abJ prog w) A.in1 (Bytes.buffer? "bytes.__new__" (.ref a) true>>=k) P E' s:=λhk=>bc (rN h hk)
 first
  |refine tail ?_
  |(refine bc ?_;refine tail ?_)
 refine (zP (bc (wpAny_mkBytes ?_ hz)));exact cp (hQ _ _)
theorem nA(h:dS s.heap a arr)(hz:arr.size<=abQ)(hQ: ∀t k,Q (.bytes arr t) {s with toks:=k}):ax (abJ prog w) A (call (.type "bytes") [.ref a]) Q E s:=by
 refine callType_codes (Q₁:=λobj s₁=>s₁.TypeIs obj "bytes"/\Q obj s₁) aaI (F.bm_typeCall _) F.entry_object_init
  (NR h hz λt k=>⟨PySem.W.typeIs_bytes _ _ _,hQ t k⟩) λobj s₁ h₁=>?_
 exact ⟨h₁.1,F.args_object_init_2 obj _,object_init_meets aaI.init.lookup aaI.made (by decide) prog w A.in1 _ s₁ ⟨h₁.1,rfl,h₁.2⟩⟩
end
end MP
end Mine.Lake
end
section
namespace Mine.Lake
namespace MP
open PySem PySem.W PyProof.Rows
section
variable{C:Cx}{z:Z C}{Q E:Value->Shared->Prop}
theorem C1.ns{h:Heap}(x:C1 L d m)(w: ∀a o,L a=some o->h.get? a=some o):h.Ns d m:=by
 induction x with|mk a b c e f=>exact ⟨_,_,_,w _ _ a,c,e,f⟩
theorem tN(h:glob sc x=some gv):fG sc x=true/\bX (sl x) fL=some gv:=rI h
theorem FE.glob(F:FE env sc)(h:fG sc x=true):env.kindOf x=some .globalImplicit/\(x==("__debug__":Str))=false:=by
 refine ae λaA=>?_;obtain ⟨d,hd⟩:=BD h;obtain ⟨k',_,b,c⟩:=F.at hd;refine aA ?_;exact ⟨c.trans (congrArg some b.symm),(F.Ze hd).1⟩
theorem eX(F:FE C.env C.sc)(hx:fG C.sc x=true)(h:ko C.P abN x=some y\/(ko C.P abN x=none/\ko C.P abW x=some y))(hq:Q y z.s):ax C.M C.A (eval (.Name x pos) C.env) Q E z.s:=by
 have iS:=F.glob hx;have a:=iS.1;have b:=iS.2;refine Calls.Name_function_global F.kind a ?_ b;have g1:z.s.heap.Ns C.env.globals (ko C.P abN):=F.gl▸(tK C.P).ns λU U=>z.base;have g2:z.s.heap.Ns C.env.builtins (ko C.P abW):=F.bl▸(Eb C.P).ns λU U=>z.base;exact h.elim (λh=>Calls.loadGlobal_global g1 h hq) λh=>Calls.loadGlobal_builtin g1 h.1 g2 h.2 hq
theorem IU(h:glob sc x=some (.val v)):aV sc hb (.Name x pos) (cO v):=λk z Q E w=>by
 refine ae λaA=>?_;obtain ⟨h1,h2⟩:=tN h;obtain ⟨u,a,b⟩:=NP k.C.P z.I.base h2;refine aA ?_;exact Kl<|eX k.fe (k.hs.symm▸h1) (.inl a) (w.new.val b z.s.toks)
theorem BN(h:idxOf x i l=some k): ∃d,k=i+d/\aU l d=some x:=by
 induction l generalizing i with
 |nil=>exact bw h
 |cons n r ih=>
  change cond (bP n x) (some i) (idxOf x (i+1) r)=some k at h;cases q:bP n x with
  |true=>rw [q] at h;cases ag (h);exact ⟨0,rfl,by rw [dP q];rfl⟩
  |false=>(rewrite [q] at h;try with_reducible rfl);obtain ⟨d,a,b⟩:=ih h;exact ⟨d+1,by (rewrite [a,fw,nr 1];try with_reducible rfl),b⟩
theorem Ae(h:idxOf x 0 l=some k):aU l k=some x:=by
 obtain ⟨d,a,b⟩:=BN h;rw [a,fb];exact b
theorem RZ(r:eN y fs m)(h:i9 k fs=some v)(hk:aU bx k=some (sl nm)): ∃x,m nm=some x/\az y v x:=by
 induction fs with
 |nil=>exact bw h
 |cons a fs ih=>
  obtain ⟨⟨l,x,e1,e2,hv⟩,r⟩:=r;change cond (bo k a.1) (some a.2) (i9 k fs)=some v at h;cases q:bo k a.1 with
  |true=>
   rw [q] at h;cases ag (h);rw [<-cq q,hk] at e1;cases ag (e1);rw [b9] at e2;exact ⟨x,e2,hv⟩
  |false=>rw [q] at h;exact ih r h
theorem az.handed(h:az y v x):adT x=true:=by
 have k: ∀{x u},x=u->adT u=true->adT x=true:=λe h=>e▸h;cases v with
 |none=>exact k h rfl
 |bool b=>exact k h rfl
 |int i=>exact h.elim λU e=>k e rfl
 |str i=>exact h.elim λU e=>k e rfl
 |bytes l=>exact h.elim λU h=>h.elim λU h=>k h.1 rfl
 |tup l=>exact h.elim λU h=>h.1.ref.elim λU e=>k e rfl
 |list l=>exact h.elim λU h=>h.1.ref.elim λU e=>k e rfl
 |ref i=>exact h.elim λU h=>k h.2 rfl
 |inst c l=>exact h.elim λU h=>h.elim λU h=>h.elim λU h=>k h.1 rfl
 |ou j l=>exact h.elim λU h=>h.elim λU h=>h.1.ref.elim λU e=>k e rfl
 |exc j u=>exact h.elim λU h=>h.1.ref.elim λU e=>k e rfl
theorem Af(h1:o.data=.dict es ep)(h2:acv es nm=some x):lookIn nm o=some (some x):=by
 unfold lookIn;rw [h1];obtain ⟨e,he,rfl⟩:=eR.mp h2;rw [<-Array.find?_toList] at he;simp only [he]
theorem BO(h: ∀k,o.data≠ .cls k):notCls o=true:=by
 unfold notCls;generalize o.data=d at h ⊢;rcases d with _|_<;>first|rfl|exact (h _ rfl).elim
theorem pM{K:Frag}(an:ab4 K (.ref A) nm=some none)(ac: ∃cd,clsIn K A=some cd/\cd.hasDict=true)(h:lookIn nm od=some (some x)):findObj K A (some od) nm=some (.value x):=by
 obtain ⟨cd,c1,c2⟩:=ac;have e:W.ownOf cd (some od) nm=some (some x):=(if_pos c2).trans h;unfold findObj;rw [c1];show (ab4 K (.ref A) nm).bind _=_;rw [an];show (W.ownOf cd (some od) nm).bind _=_;rw [e];rfl
variable{b:Bool}{nm:Str}{x:Addr}{y:Value}
theorem lX(z:Z C):(cG C.P).In z.s.heap:=λU U e=>z.base (z8 e)
theorem Ec(h:gx z.s.heap.get? c x d m)(hk:aU bx k=some (sl nm))(hm:m nm=some y)(hy:adT y=true)(hq:Q y {z.s with toks:=z.s.toks+1}):ax C.M C.A (adL (.ref x) nm b) Q E z.s:=by
 refine ae λaA=>?_;induction h with|mk a1 a2 a3 a4 a5 g=>induction g with|mk g1 g2 g3 g4 g5 g6 g7=>
 refine aA ?_;exact get_value (lX z) ⟨a1,a2,BO a4,by rw [a3];exact g1⟩ (RQ C.P c) (pM (RP C.P c hk) (RS C.P c) (Af g4 ((g7 nm).trans hm))) hy hq
theorem rP:xI "BaseException" "__getattribute__" "BaseException.__getattribute__":=
 .of (owner:="BaseException") (n:="__getattribute__") (by rw [abT,abO];kernel_rfl) (by decide+kernel) (by decide+kernel) (by decide+kernel)
  (by first|exact .inl (by decide+kernel)|exact .inr (by decide+kernel)) (by rw [aca];kernel_rfl)
set_option tactic.hygienic true in
theorem IV(h:qU z.y.J k v y)(hy:adT y=true)(hq:Q y {z.s with toks:=z.s.toks+1}):ax C.M C.A (adL v "what" b) Q E z.s:=by
 cases h with|mk a1 a2 a3 a4 g e=>induction g with|mk g1 g2 g3 g4 g5=>
 rename_i a _ _ _ _ _ _ _
 have iS:=Lu C.P k;have n1:=iS.1;have n2:=iS.2.1;have n3:=iS.2.2.1;have n4:=iS.2.2.2;have h1:=z.qZ a1;have IA:InstAt z.s.heap _ _ (cB k) (some _):=⟨h1,a2,by unfold notCls;rw [a4],by rw [a3];exact z.qZ g1⟩;have L1:=acO (M:=C.M) (lX z) n2;have L2:=acO (M:=C.M) (lX z) n3;have L3:=looks_find (M:=C.M) (lX z) IA (pM n1 n4 (Af g3 ((g5 _).trans e)));have hC:=z.base (iu C.P k);generalize z.s=s at*;obtain ⟨hh,g,d,t,os⟩:=s;have Xa:(si "BaseException.__getattribute__"==si "object.__getattribute__")=false:=by decide+kernel
 have NS:(onTheHeap (dT (cB k))&&si "BaseException.__getattribute__"==si "object.__getattribute__")=false:=by rw [Xa];rfl
 have Ed:(dT (cB k)::[dT 47,.type "Exception",.type "BaseException",.type "object"]).contains (.type "BaseException")=true:=by rw [hU,hU];rfl
 refine bc (wpAny_mkText (wa (bc ((IA.type (M:=C.M)).at (bc (L1.at ?_))))));show ax _ _ (if (onTheHeap (dT (cB k))&&si "BaseException.__getattribute__"==si "object.__getattribute__")=true then _ else _) _ _ _;rw [NS,if_neg hH];refine bc (L2.at ?_);refine bc (PySem.wpAny_attempt (wa ?_));have hx0:(b&&onTheHeap (si "BaseException.__getattribute__"))=false:=by rcases b with _|_<;>rfl
 unfold callGetattribute;rw [hx0,if_neg hH];unfold boundAndCalled;refine (Df (rP.bind _) ?_);refine vu (vT rP.plain F.entry_bexc_ga ?_);have hk:builtinKind "BaseException.__getattribute__"=some .slot:=by decide+kernel
 have hsplit:splitId "BaseException.__getattribute__"=some ("BaseException","__getattribute__"):=by decide+kernel
 have ha:=F.args_bexc_ga (.ref a) (.str "what" t);unfold abV;rw [hk,hsplit];refine bc ?_
 ·unfold acG
  repeat (first|with_reducible refine bc (L3.at ?_)|(with_reducible refine abP h1 ?_;rw [a2])|(with_reducible refine abX hC ?_;rw [Ed])|wp_step)
  show ax _ _ (handedOut y) _ _ _;rw [handedOut_of hy];exact cp hq
theorem ny.get(h:ny z c fs v)(hk:aU bx k=some (sl nm))(e:i9 k fs=some u)(hq: ∀x t,az z.y u x->Q x {z.s with toks:=t}):ax C.M C.A (adL v nm b) Q E z.s:=by
 induction h with|mk i d f=>exact (RZ f e hk).elim λx g=>Ec i hk g.1 g.2.handed (hq x _ g.2)
theorem IW(hk:aU bx 0=some (sl nm)):nm="what":=ig (ag hk).symm
theorem IX(hx:cW z d v)(hk:aU bx k=some (sl nm))(h:Lc k d=some r)(N:kO z r Q):ax C.M C.A (adL v nm b) Q E z.s:=
 gq h (λp e1 h=>aQ h λu e2 h=>(hx.o _ e1).get hk e2 (N.v h)) λh=>aQ h λw e1 h=>cN h λg h=>
 (hx.x _ e1).elim λj e=>e.elim λx' e=>IW (cq g▸hk)▸IV e.1 e.2.handed (N.v h x' _ e.2)
abbrev jF(e:bp):Prop:= ∀x env whole,acJ e x env whole=whole
theorem IY{x:Str}(h:aV sc hb v m)(h0:jF v)(hk:aU bx k=some (sl x))(pos:Pos):aV sc hb (.Attribute v x pos) (av m k):=λk' z Q E w=>
 Attribute_any_ (one h w λa z' x w U hr=>w.opt λu e w=>Kl<|IX (rd hr) hk e w.new) (by rw [arm_eval_Attribute,h0])
end
end MP
end Mine.Lake
end
section
namespace Mine.Lake
namespace MP
open PySem PySem.W PyProof.Rows
section
variable{prog:Program}{w:abR}{A:Around}{E:Value->Shared->Prop}{s:Shared}{env:dq}{Q:Value->Shared->Prop}
abbrev NT(slice:bp):Prop:= ∀o i, ∃vs,subscripted slice false o i=operate vs (getItem o i)
theorem lY(eq:NT slice)(h:wpAny (abJ prog w) A (eval value env) (λo s₁=>wpAny (abJ prog w) A (eval slice env) (λi s₂=>acb (abJ prog w) A o i Q E s₂) E s₁) E s):
  wpAny (abJ prog w) A (eval (.Subscript value slice pos) env) Q E s:=by
 rw [eval_Subscript];refine sq h λo s₁ h=>sh h λi s₂ h=>sd ?_;refine ae λaA=>?_;obtain ⟨T,id,hl,hT,hg⟩:=h;refine aA ?_;rw [getitemInPython_of_ne hT.not_modules];obtain ⟨vs,eq⟩:=eq o i;refine wpAny_bind (wpAny_bind (Kl<|adC hT hl (wpAny_pure (show wpAny _ _ (subscripted slice false o i>>=_) Q E s₂ from ?_))));rw [eq];exact sq (so (Kl hg)) λr s₃ h=>wpAny_bind (Kl<|wpAny_letTemporaryGo (wpAny_pure h))
end
theorem aB.aU(h:aB y l xs)(e:MP.aU l n=some v): ∃x,xs[n]?=some x/\az y v x:=by
 induction l generalizing xs n with
 |nil=>exact bw e
 |cons a l ih=>
  obtain ⟨x,r,rfl,hv,h⟩:=h;induction n with
  |zero=>cases ag (e);exact ⟨x,rfl,hv⟩
  |succ n=>exact ih (xs:=r) (n:=n) h e
theorem vL(h:o7 l=some v):0<l.length/\aU l (l.length-1)=some v:=by
 induction l with
 |nil=>exact bw h
 |cons a l ih=>induction l with
  |nil=>exact ⟨Nat.one_pos,h⟩
  |cons b r=>exact ⟨mf _,(ih h).2⟩
theorem tP{k len:Nat}(h:k<len):acD (k:Int) len=some k:=by
 unfold acD;rw [if_neg (ro.mpr (eI k)),if_pos (by rw [decide_eq_true (eI k),decide_eq_true (js.mpr h)];rfl)];rfl
theorem R2:(-1:Int)+((n+1:Nat):Int)=(n:Int):=by rw [FX,Int.add_comm,YP];exact aak _
theorem R3{n:Nat}(p:0<n):((-1:Int)+(n:Int)).toNat=n-1:=by
 induction n with
 |zero=>exact absurd p (vy _)
 |succ n=>rw [R2];rfl
theorem Ef:acD (-1) (n+1)=some n:=by
 unfold acD;rw [show (if (-1:Int)<0 then (-1:Int)+((n+1:Nat):Int) else-1)=(n:Int) from (if_pos (by decide)).trans R2,if_pos (by rw [decide_eq_true (eI n),decide_eq_true (js.mpr (km n))];rfl)];rfl
theorem Eg{k:Nat}(h:k<2^23):Qr (k:Int)=true:=by
 have l:(k:Int)<2^63:=xi (js.mpr h) (by decide);simp only [Qr,decide_eq_true l,decide_eq_true (u3 (by decide: -(2^63:Int)<=0) (eI k)),Bool.and_self]
inductive QD(l:List V)(v:V):Int->Prop
 |at {k:Nat}:k<2^23->aU l k=some v->QD l v k
 |last:0<l.length->aU l (l.length-1)=some v->QD l v (-1)
theorem Eh{i:Int}(h:itemAt l i=some y):QD l y i:=by
 induction i with
 |ofNat k=>exact cN (b:=bf k) h λa b=>.at (fj a) b
 |negSucc k=>exact cN (b:=bo k 0) h λa b=>by cases cq a;exact .last (vL b).1 (vL b).2
section
variable{C:Cx}{z:Z C}{x y:Value}{Q E:Value->Shared->Prop}{i:Int}{v:V}{l:List V}
theorem oH{xs:Array Value}(h:aB z.y l xs.toList)(e:aU l k=some v): ∃u,xs[k]?=some u/\k<xs.size/\az z.y v u:=(h.aU e).imp λu g=>⟨vi▸g.1,di h▸dz e,g.2⟩
theorem item_list(h1:z.s.heap.IsList a xs)(h2:aB z.y l xs.toList)(c:QD l v i)(hq: ∀x,az z.y v x->Q x z.s):acb C.M C.A (.ref a) (.int i t) Q E z.s:=by
 refine ⟨"list","list.__getitem__",slot_list_getitem.lookup,Heap.IsList.typeIs h1,?_⟩;induction c with
 |«at» hk e=>exact (oH h2 e).elim λu g=>wpAny_getItem_list h1 (eI _) (xi (js.mpr hk) (by decide)) (x:=u) g.1 (hq u g.2.2)
 |last p e=>
  refine ae λaA=>?_;obtain ⟨u,g1,g2,g3⟩:=oH h2 e;refine aA ?_;rw [(di h2)] at g1 p;exact wpAny_getItem_list_neg h1 (by decide) (abi (kV.mpr p)) (by decide) (x:=u) (R3 p▸g1) (hq u g3)
theorem item_tup(h1: ∃o,z.s.heap.get? a=some o/\o.cls=.type "tuple"/\ ∃n,o.data=.seq xs n)(h2:aB z.y l xs.toList)(c:QD l v i)(hq: ∀x,az z.y v x->Q x z.s):acb C.M C.A (.ref a) (.int i t) Q E z.s:=by
 refine ⟨"tuple","tuple.__getitem__",PySem.F.slot_tuple_getitem.lookup,h1.imp λU h=>⟨h.1,h.2.1⟩,?_⟩;induction c with
 |«at» hk e=>exact (oH h2 e).elim λu g=>IH h1 (u3 (by decide) (eI _)) (xi (js.mpr hk) (by decide)) (tP g.2.1) (x:=u) g.1 (hq u g.2.2)
 |last p e=>exact (oH h2 e).elim λu g=>IH h1 (by decide) (by decide) (by rw [<-di h2, <-tm p];exact Ef) (x:=u) g.1 (hq u g.2.2)
theorem item_at(h:eG z "list" l x\/az z.y (.tup l) x)(hi:az z.y (.int i) y)(c:QD l v i)(hq: ∀x,az z.y v x->Q x z.s):acb C.M C.A x y Q E z.s:=by
 obtain ⟨t,rfl⟩:=hi;rcases h.imp id (eG.kept (c:="tuple")) with h|h
 ·induction h with|mk h1 h2=>exact item_list h1 h2 c hq
 ·induction h with|mk h1 h2=>exact item_tup h1 h2 c hq
theorem IZ{k c:Nat}(hx:az z.y (.str p) x)(hi:az z.y (.int k) y)(g:bf p.length=true)(e:aU p k=some c)(hq: ∀x t,az z.y (.str [c]) x->Q x {z.s with toks:=t}):acb C.M C.A x y Q E z.s:=by
 obtain ⟨t,rfl⟩:=hx;obtain ⟨u,rfl⟩:=hi;have n:=dz e;have n2:(k:Int)<2^63:=xi (js.mpr (kS n (fj g))) (by decide);refine ⟨"str","str.__getitem__",PySem.F.slot_str_getitem.lookup,aef z.s _ _,P.getItem_str (c:=c) ?_ ?_ (hq _ _ ⟨_,rfl⟩)⟩
 ·show (decide ((k:Int)< -(2^63:Int))||decide ((k:Int)≥2^63))=false;rw [decide_eq_false (aa4.mpr n2),decide_eq_false (ro.mpr (u3 (by decide) (eI k)))];rfl
 ·show (acD (k:Int) p.toArray.size).bind _=_;rw [tP (by rw [aay];exact n)];show p.toArray[k]?=_;rw [List.getElem?_toArray, <-cL];exact e
theorem byte_at{b:List UInt8}(e:aU (b.map ki) k=some c):k<b.length/\ ∃d,b[k]?=some d/\d.toNat=c:=by
 have n:=dz e;rw [cL,rh] at e;rw [df] at n;exact ⟨n,eR.mp e⟩
theorem BP{k c:Nat}(hx:az z.y (.bytes p) x)(hi:az z.y (.int k) y)(g:bf p.length=true)(e:aU p k=some c)(hq: ∀x t,az z.y (.int c) x->Q x {z.s with toks:=t}):acb C.M C.A x y Q E z.s:=by
 refine ae λaA=>?_;obtain ⟨bb,t,rfl,rfl⟩:=hx;obtain ⟨u,rfl⟩:=hi;obtain ⟨n,d,hd,rfl⟩:=byte_at e;refine aA ?_;rw [df] at g;exact ⟨"bytes","bytes.__getitem__",FB.slot_bytes_getitem.lookup,typeIs_bytes z.s _ _,getItem_bytes (l:=bb.toList) (bt (kp (fj g)) (by decide)) (eI k) (js.mpr n) (hq _ _ ⟨_,by show Value.int ((bb.toList.getD k 0).toNat:Int) _=_;rw [List.getD_eq_getElem?_getD,hd];rfl⟩)⟩
theorem lR.ba(h:lR z b x): ∃a arr,x=.ref a/\dS z.s.heap a arr/\arr.toList.map ki=b:=by
 induction h with|mk h=>obtain ⟨ob,arr,h1,h2,h3,h4⟩:=h;exact ⟨_,arr,rfl,⟨ob,h1,h2,h3⟩,h4⟩
theorem NU{k c:Nat}(hx:lR z p x)(hi:az z.y (.int k) y)(g:bf p.length=true)(e:aU p k=some c)(hq: ∀x t,az z.y (.int c) x->Q x {z.s with toks:=t}):acb C.M C.A x y Q E z.s:=by
 refine ae λaA=>?_;obtain ⟨a,arr,rfl,hB,rfl⟩:=hx.ba;obtain ⟨u,rfl⟩:=hi;obtain ⟨n,d,hd,rfl⟩:=byte_at e;refine aA ?_;rw [df] at g;exact ⟨"bytearray","bytearray.__getitem__",dJ.lookup,hB.typeIs,yb (c:=d) hB (Eg (kS n (fj g))) (by show (acD (k:Int) arr.size).bind _=_;rw [tP (eA▸n)];exact vi.symm.trans hd) (hq _ _ ⟨_,rfl⟩)⟩
theorem Ei(hx:kh z kvs x)(hi:az z.y (.str k) y)(e:bX k kvs=some v)(hq: ∀x t,az z.y v x->Q x {z.s with toks:=t}):acb C.M C.A x y Q E z.s:=by
 refine ae λaA=>?_;obtain ⟨t,rfl⟩:=hi;induction hx with|mk hO hj=>
 obtain ⟨es,he,hD⟩:=hO.dictOf;obtain ⟨u,u1,u2⟩:=kP he e;refine aA ?_;exact ⟨"dict","dict.__getitem__",PySem.F.slot_dict_getitem.lookup,hO.elim λob w=>w.elim λU w=>w.elim λU w=>⟨ob,w.1,w.2.1.1⟩,wpAny_getItem_of (cR _ _) hD.mapOf u1 (hq u _ u2)⟩
theorem yd{f:Nat->α}{r:α}{G:Prop}(h:HT p i f=some r)(k: ∀n c:Nat,i=(n:Int)->bf p.length=true->aU p n=some c->some (f c)=some r->G):G:=
 aQ h λn e h=>cN h λg h=>aQ h λc e2 h=>k n c (lT e) g e2 h
variable{d e:D}{r:R}
theorem NV(hx:cW z d x)(hy:cW z e y)(h:Rj d e=some r)(N:kO z r Q):acb C.M C.A x y Q E z.s:=
 gq h (λi e1 h=>
  gq h (λl e2 h=>aQ h λv e3 h=>item_at (hx.it e2) (hy.i _ e1) (Eh e3) λx=>N.v h x z.s.toks) λh=>
  gq h (λl e2 h=>yd h λn c q g e3 h=>IZ (hx.s _ e2) (q▸hy.i _ e1) g e3 (N.v h)) λh=>
  gq h (λl e2 h=>yd h λn c q g e3 h=>BP (hx.y _ e2) (q▸hy.i _ e1) g e3 (N.v h)) λh=>
  aQ h λl e2 h=>yd h λn c q g e3 h=>NU (hx.a _ e2) (q▸hy.i _ e1) g e3 (N.v h)) λh=>
 aQ h λk e1 h=>aQ h λkvs e2 h=>aQ h λv e3 h=>Ei (hx.d _ e2) (hy.s _ e1) e3 (N.v h)
theorem jG(n:Nat)(l:List α):take' n l=l.take n:=by
 induction n generalizing l with
 |zero=>rfl
 |succ n ih=>induction l with
  |nil=>rfl
  |cons a l=>exact congrArg (λU=>a::U) (ih l)
theorem drop_eq(n:Nat)(l:List α):drop' n l=l.drop n:=by
 induction n generalizing l with
 |zero=>rfl
 |succ n ih=>induction l with
  |nil=>rfl
  |cons a l=>exact ih l
theorem rev_eq(l acc:List α):rev l acc=l.reverse++acc:=by
 induction l generalizing acc with
 |nil=>rfl
 |cons a l ih=>exact (ih (a::acc)).trans (by rw [kb,eD];rfl)
theorem aB.take{y:Wd}(n:Nat)(h:aB y l xs):aB y (l.take n) (xs.take n):=by
 induction n generalizing l xs with
 |zero=>rw [abj,abj];rfl
 |succ n ih=>induction l with
  |nil=>rcases h with _|_;rfl
  |cons a l=>obtain ⟨x,r,rfl,hv,h⟩:=h;exact ⟨x,r.take n,rfl,hv,ih h⟩
theorem aB.rev{y:Wd}(h:aB y l xs):aB y l.reverse xs.reverse:=by
 induction l generalizing xs with
 |nil=>cases h;rfl
 |cons a l ih=>obtain ⟨x,r,rfl,hv,h⟩:=h;rw [kb,kb];exact (ih h).app ⟨x,[],rfl,hv,rfl⟩
theorem ye:slicePick xs none (some (abo k)) none=(xs.toList.take k).toArray:=by
 rw [kms_pick_eq];congr 1;show List.take (min k xs.size-0) (List.drop 0 xs.toList)=_;rw [NM,Ta, <-eA, <-List.take_eq_take_min]
theorem vM{g:Array Value->Array Value}{so:Obj}(hx:cW z d x)(e:cutD f d=some r)(N:kO z r Q)(hf: ∀l xs,aB z.y l xs.toList->aB z.y (f l) (g xs).toList)
  (h: ∀a xs,(z.s.heap.push so).IsList a xs->xs.size<=abQ->Q (.ref (z.s.heap.push so).objs.size) {z.s with heap:=(z.s.heap.push so).push {cls:=.type "list",data:=.seq (g xs)},toks:=t}->acb C.M C.A (.ref a) (.ref z.s.heap.objs.size) Q E {z.s with heap:=z.s.heap.push so,toks:=t}):
  acb C.M C.A x (.ref z.s.heap.objs.size) Q E {z.s with heap:=z.s.heap.push so,toks:=t}:=
 aQ e λl e1 h'=>cN h' λgl h'=>by
  have hl:=hx.l _ e1;induction hl with|mk h1 h2=>
  exact h _ _ (aaR h1 so) (by rw [<-di h2];exact bE gl) ((N.to h').list ((Keeps.push _ _).trans (Keeps.push _ _)) (lb (by rw [ip];exact tI _)) (da _ rfl) (hf _ _ h2) t)
end
section
variable{sc:abL}{hb:Bool}
theorem I9{v i:bp}(hv:aV sc hb v mv)(hi:aV sc hb i mi)(eq:NT i)(pos:Pos):aV sc hb (.Subscript v i pos) (aK mv mi):=λk z Q E w=>
 lY eq (two dm fH hv hi w λa b z' x y w U ha hb=>w.opt λu e w=>NV (rd ha) (rd hb) e w.new)
theorem Ja(h:aV sc hb v mv)(j kd:Nat)(p1 p2 pos:Pos):aV sc hb (.Subscript v (.Slice .none (some (.Constant (.int (.ofNat j)) kd p1)) .none p2) pos) (o8 mv j):=λk z Q E w=>
 lY (λU U=>⟨_,rfl⟩) (one h w λa z' x w U hr=>w.opt λu e w=>
  wpAny_Slice (wpAny_pure (Kl<|adh (k:=kd) (pos:=p1) (wpAny_pure (vM (g:=λxs=>(xs.toList.take j).toArray) (rd hr) e w.new (λl xs r=>by rw [jG];exact r.take j) λa xs hl n hq=>
   ⟨"list","list.__getitem__",slot_list_getitem.lookup,hl.typeIs,adw hl (xl ..) .none (.int _ _) .none (by simp) (ye▸hq) n⟩)))))
theorem NW(h:aV sc hb v mv)(kd:Nat)(p1 p2 p3 pos:Pos):aV sc hb (.Subscript v (.Slice .none .none (some (.UnaryOp .USub (.Constant (.int 1) kd p1) p3)) p2) pos) (xG mv):=λk z Q E w=>
 lY (λU U=>⟨_,rfl⟩) (one h w λa z' x w U hr=>w.opt λu e w=>
  wpAny_Slice (wpAny_pure (wpAny_pure (wpAny_UnaryOp (pos:=p3) (Kl<|adh (k:=kd) (pos:=p1) (Kl<|P.neg_int (vM (g:=λxs=>xs.toList.reverse.toArray) (rd hr) e w.new (λl xs r=>by show aB _ (MP.rev l []) _;rw [rev_eq,gn];exact r.rev) λa xs hl n hq=>
   ⟨"list","list.__getitem__",slot_list_getitem.lookup,hl.typeIs,adw hl (xl ..) .none .none (.int _ _) (by simp) (krv_pick xs▸hq) n⟩)))))))
end
end MP
end Mine.Lake
end
section
namespace Mine.Lake
namespace MP
open PySem PySem.W PyProof.Rows
theorem Ej(k:Keeps h h')(e:h'.get? a=none):h.get? a=none:=by
 cases q:h.get? a with
 |none=>rfl
 |some o=>exact nomatch e.symm.trans (k a o q)
section
variable{sc:abL}{hb:Bool}{x:Str}
theorem tQ{k:Kx sc hb}{z:Z k.C}(hg:glob sc x=some (.bi j))(hj:rM j=some fv)(hq:Q fv z.s):ax k.M k.A (eval (.Name x np) k.C.env) Q E z.s:=by
 have h:=tN hg;have b:=RX k.C.P h.2;exact eX k.fe (k.hs.symm▸h.1) (.inr ⟨b.1,b.2.trans hj⟩) hq
inductive vN:Value->Prop
 |id (id:String):vN (.builtin id)
 |ty (T:String):vN (.type T)
theorem pN{rel:Rl α Value}{rl:Rl ω Value}{m:M α}{f:α->M ω}(hj:rM j=some fv)(Ek:vN fv)(hg:glob sc x=some (.bi j))(h:Ref true rel sc hb (eval e) m)(he:Plain e)
  (op: ∀(k:Kx sc hb) (z:Z k.C) a v Q E,Po true rl z (f a k.cf z.ρ z.H) Q E->rel k.C z a v->wpAny k.M k.A (call fv [v]) Q E z.s):Ref true rl sc hb (eval (.Call (.Name x np) [e] [] pos)) (aF m f):=λk z Q E w=>by
 refine Call_name1 (he [] k.C.env) (Kl<|tQ hg hj ?_);have w:=one h w λa z' x w U hr=>op k z' a x Q E w hr;induction Ek with
 |id=>exact callWith_builtin1 w
 |ty=>exact callWith_type1 w
theorem yf{dN:Rl α Value}{mU:Rl β Value}{rl:Rl ω Value}{m1:M α}{m2:M β}{f:α->β->M ω}(hj:rM j=some fv)(Ek:vN fv)(hg:glob sc x=some (.bi j))(hd:tB dN)(ls:lJ mU)(h1:Ref true dN sc hb (eval a) m1)(h2:Ref true mU sc hb (eval b) m2)
  (ha:Plain a) (hb':Plain b) (op: ∀(k:Kx sc hb) (z:Z k.C) a b v u Q E,Po true rl z (f a b k.cf z.ρ z.H) Q E->dN k.C z a v->mU k.C z b u->wpAny k.M k.A (call fv [v,u]) Q E z.s):Ref true rl sc hb (eval (.Call (.Name x np) [a,b] [] pos)) (aF m1 λa=>aF m2 (f a)):=λk z Q E w=>by
 show wpAny _ _ (do ab2 pos (<-eval (.Name x np) k.C.env) [] (ab1 pos (abU [a,b] k.C.env)) (adp pos (acS [] k.C.env))) Q E _;rw [ha,hb'];have go:=evalArgs_plain (f:=fv) (Q:=λas s=>wpAny k.M k.A (call fv ([]++as.pos) as.kw) Q E s) (spliced_cons (wpAny_mono (two (f:=λa b=>f a b k.cf) hd ls h1 h2 w (λa b z' x y w U ha hb=>op k z' a b x y Q E w ha hb)) (λv s₁ h₁=>spliced_cons (wpAny_mono h₁ (λw s₂ h₂=>spliced_nil h₂) λU U e=>e)) λU U e=>e));refine wpAny_bind (Kl<|tQ hg hj ?_);induction Ek with
 |id=>exact callWith_builtin rfl go
 |ty=>exact callWith_type rfl go
theorem mZ(hj:rM j=some fv)(Ek:vN fv)(hg:glob sc x=some (.bi j))(h:aV sc hb e m)(he:Plain e)
  (op: ∀(k:Kx sc hb) (z:Z k.C) d v r Q E,cW z d v->f d=some r->kO z r Q->ax k.M k.A (call fv [v]) Q E z.s):aV sc hb (.Call (.Name x np) [e] [] pos) (xo f m):=
 pN hj Ek hg h he λk z a v Q E w hr=>w.opt λr e w=>Kl<|op k z _ v r Q E (rd hr) e w.new
variable{e:bp}{m:M R}(h:aV sc hb e m)(he:Plain e)(np pos:Pos)
theorem int_at{z:Z C}(hx:cW z d v)(h:intD d=some r)(N:kO z r Q):ax C.M C.A (call (.type "int") [v]) Q E z.s:=
 gq h (λi e h=>(hx.i _ e).elim λt q=>by rw [q];exact call_int_int (N.v h _ z.s.toks ⟨t,rfl⟩)) λh=>aQ h λb e h=>by
 rw [hx.b _ e];exact call_int_bool (N.v h _ _ ⟨_,by rcases b with _|_<;>rfl⟩)
theorem NX{z:Z C}(hx:cW z d v)(h:Rn d=some r)(N:kO z r Q):ax C.M C.A (call (.builtin "abs") [v]) Q E z.s:=
 aQ h λi e h=>(hx.i _ e).elim λt q=>by rw [q];exact call_abs_int λu tk=>N.v h _ _ ⟨u,by rw [Bool.cond_decide]⟩
theorem eG.len{z:Z C}(h:eG z "list" l v\/az z.y (.tup l) v)(g:bf l.length=true)(hq: ∀x t,az z.y (.int l.length) x->Q x {z.s with toks:=t}):ax C.M C.A (call (.builtin "len") [v]) Q E z.s:=by
 rcases h.imp id (eG.kept (c:="tuple")) with h|h
 ·induction h with|mk h1 h2=>exact Calls.call_len_list h1 (Iq (di h2) g) (hq _ _ ⟨_,by rw [di h2]⟩)
 ·induction h with|mk h1 h2=>exact PyProof.Rows.len_tuple h1 (Iq (di h2) g) (hq _ _ ⟨_,by rw [di h2]⟩)
theorem big(g:bf n=true):n<=1099511627776:=bt (kp (fj g)) (aw rfl)
theorem BQ(h:az y (.bytes l) v)(g:bf l.length=true)(hq: ∀x t,az y (.int l.length) x->Q x {s with toks:=t}):ax (abJ prog w) A (call (.builtin "len") [v]) Q E s:=by
 refine ae λaA=>?_;obtain ⟨bb,t,rfl,rfl⟩:=h;refine aA ?_;rw [df,eA] at g hq;exact PySem.W.len_bytes (big g) (hq _ _ ⟨_,rfl⟩)
theorem lR.len{z:Z C}(h:lR z l v)(g:bf l.length=true)(hq: ∀x t,az z.y (.int l.length) x->Q x {z.s with toks:=t}):ax C.M C.A (call (.builtin "len") [v]) Q E z.s:=by
 refine ae λaA=>?_;obtain ⟨a,arr,rfl,hB,rfl⟩:=h.ba;refine aA ?_;rw [df,eA] at g hq;exact NQ hB (aa4.mpr (Iq rfl g)) (hq _ _ ⟨_,rfl⟩)
theorem NY{z:Z C}(hx:cW z d v)(h:Rm d=some r)(N:kO z r Q):ax C.M C.A (call (.builtin "len") [v]) Q E z.s:=
 gq h (λl e h=>cN h λg h=>eG.len (hx.it e) g (N.v h)) λh=>
 gq h (λl e h=>cN h λg h=>BQ (hx.y _ e) g (N.v h)) λh=>
 aQ h λl e h=>cN h λg h=>(hx.a _ e).len g (N.v h)
theorem NZ{z:Z C}(h:eG z "list" l v\/az z.y (.tup l) v)(g:bf l.length=true)(N:kO z (.val (.tup l)) Q):ax C.M C.A (call (.type "tuple") [v]) Q E z.s:=by
 rcases h with h|h
 ·induction h with|mk h1 h2=>exact call_tuple_list h1 (λh' k=>N.tup (λb o e=>cn _ (k b o e)) (Ej k (aN h')) (da _ rfl) h2 z.s.toks) (by rw [<-di h2];exact bE g)
 ·have w:=h;obtain ⟨xs,k,_⟩:=h;induction k with|mk k1 k2 k3=>exact call_tuple_same ⟨_,z.qZ k1,k2,_,k3⟩ (N.val w z.s.toks)
theorem Ag{z:Z C}(hc:c="list"\/c="tuple")(h:eG z c l v)(g:bf l.length=true)(N:kO z (.own (.list l)) Q):ax C.M C.A (call (.type "list") [v]) Q E z.s:=by
 refine ae λaA=>?_;induction h with|mk h1 h2=>
 obtain ⟨ob,o1,o2,ep,o3⟩:=h1;refine aA ?_;exact call_list_seq _ hc o1 o2 o3 (λh' c' k hn=>N.list k (aN _) hn h2 z.s.toks) (by rw [<-di h2];exact bE g)
section
include h he
theorem Jb(hg:glob sc x=some (.bi 3)):aV sc hb (.Call (.Name x np) [e] [] pos) (mP m):=mZ rfl (.ty _) hg h he λk z d v r Q E=>int_at
theorem Jc(hg:glob sc x=some (.bi 1)):aV sc hb (.Call (.Name x np) [e] [] pos) (lE m):=mZ rfl (.id _) hg h he λk z d v r Q E=>NX
theorem Jd(hg:glob sc x=some (.bi 0)):aV sc hb (.Call (.Name x np) [e] [] pos) (jc m):=mZ rfl (.id _) hg h he λk z d v r Q E=>NY
theorem Je(hg:glob sc x=some (.bi 4)):aV sc hb (.Call (.Name x np) [e] [] pos) (kH m):=mZ rfl (.ty _) hg h he λk z d v r Q E hx h N=>aQ h λl e h=>cN h λg h=>NZ (hx.it e) g (N.to h)
theorem El(hg:glob sc x=some (.bi 7)):aV sc hb (.Call (.Name x np) [e] [] pos) (sS m):=mZ rfl (.ty _) hg h he λk z d v r Q E hx h N=>aQ h λl e h=>cN h λg h=>(hx.it e).elim (λq=>Ag (.inl rfl) q g (N.to h)) λq=>Ag (.inr rfl) (.kept q) g (N.to h)
end
theorem tR{n:Nat}(hn:n<256):(adP ((n:Int)::ns)).toList.map ki=n::(adP ns).toList.map ki:=by
 have e:(adP ((n:Int)::ns)).toList=n.toUInt8::(adP ns).toList:=by simp [adP]
 rw [e,oC];congr 1;simp [Nat.toUInt8,UInt8.toNat_ofNat',Nat.mod_eq_of_lt hn]
theorem BR(h:aB y l xs)(e:octets l=some b): ∃ns:List Int,IntsAre xs ns/\(∀n∈ns,0<=n/\n<256)/\(adP ns).toList.map ki=b:=by
 induction l generalizing xs b with
 |nil=>cases h;cases ag (e);exact ⟨[],.nil,λU h=>(nomatch h),rfl⟩
 |cons v l ih=>
  obtain ⟨x,r,rfl,hv,h⟩:=h;refine aQ e λi e1 e=>aQ e λn e2 e=>cN e λg e=>aQ e λb' e3 e=>?_;rw [tD e1,lT e2] at hv;obtain ⟨t,rfl⟩:=hv;have hn:=aZ g;exact (ih h e3).elim λns a=>⟨(n:Int)::ns,.cons _ _ a.1,du.mpr ⟨⟨eI n,js.mpr hn⟩,a.2.1⟩,(tR hn).trans (by rw [a.2.2];exact ag e)⟩
theorem N1{i j:Int}(hh:A.handled=none)(ha:az y (.int i) a)(hb:az y (.int j) b)(hq: ∀x h' t,Keeps s.heap h'->az y (.int (cond (decide (i<j)) j i)) x->Q x {s with heap:=h',toks:=t}):ax (abJ prog w) A (call (.builtin "max") [a,b]) Q E s:=by
 obtain ⟨t,rfl⟩:=ha;obtain ⟨u,rfl⟩:=hb;refine max_two_ints hh λh' tk k=>hq _ _ _ k ?_;by_cases q:i<j
 ·rw [if_pos q,decide_eq_true q];exact ⟨_,rfl⟩
 ·rw [if_neg q,decide_eq_false q];exact ⟨_,rfl⟩
theorem Jf(hA:aV sc false a ma)(hB:aV sc false b mb)(h1:Plain a)(h2:Plain b)(hg:glob sc x=some (.bi 2)):aV sc false (.Call (.Name x np) [a,b] [] pos) (Dp ma mb):=
 yf rfl (.id _) hg dm fH hA hB h1 h2 λk z a b v u Q E w ha hb=>w.opt λr e w=>aQ e λi e1 h=>aQ h λj e2 h=>Kl<|N1 (k.hh rfl) ((rd ha).i _ e1) ((rd hb).i _ e2) λx h' t k hx=>(w.new.to h).Na hx k t
theorem Jg{z:Z C}(hh:C.A.handled=none)(h:eG z "list" l v)(e:octets l=some b)(g:bf l.length=true)(N:kO z (.val (.bytes b)) Q):ax C.M C.A (call (.type "bytes") [v]) Q E z.s:=by
 refine ae λaA=>?_;induction h with|mk h1 h2=>
 obtain ⟨ns,n1,n2,n3⟩:=BR h2 e;refine aA ?_;exact call_bytes_ints (vs:=Array.toList _) h1 n1 n2 (by rw [<-h2.len];exact bE g) hh λh' t j k=>N.Na ⟨_,t,rfl,n3⟩ k j
theorem Em{z:Z C}(h:lR z b v)(g:bf b.length=true)(N:kO z (.val (.bytes b)) Q):ax C.M C.A (call (.type "bytes") [v]) Q E z.s:=by
 refine ae λaA=>?_;obtain ⟨a,arr,rfl,hB,e⟩:=h.ba;refine aA ?_;exact nA hB (by rw [<-eA, <-df,e];exact bE g) λt k=>N.val ⟨_,t,rfl,e⟩ k
theorem BS(h:aV sc false e m)(he:Plain e)(hg:glob sc x=some (.bi 5)):aV sc false (.Call (.Name x np) [e] [] pos) (ek m):=
 Ref.eqm (m:=xo sU m) (e:=λcf B ρ H=>congrArg (Out.bind (m cf ρ H)) (funext λU=>funext λU=>funext λU=>BB B))<|mZ rfl (.ty _) hg h he λk z d v r Q E hx h N=>gq h (λl e h=>aQ h λb e2 h=>cN h λg h=>Jg (k.hh rfl) (hx.l _ e) e2 g (N.to h)) λh=>aQ h λb e h=>cN h λg h=>Em (hx.a _ e) g (N.to h)
end
section
variable{C:Cx}{z:Z C}{b:Bool}{Q E:Value->Shared->Prop}{cf:CF}{r:R}{v:Value}
theorem BU(h:bK C z (.own o) v)(w:Po b mR z (xE o z.ρ z.H) Q E):Q v z.s:=by
 obtain ⟨p,rfl,h⟩:=h;obtain ⟨y,I,A,e⟩:=z.share h;exact w.ok' rfl ⟨y,z.ρ,_,z.s,I⟩ A.lax ⟨p,e,rfl⟩
theorem BV(hr:bK C z r v)(w:Po b mR z (share r cf z.ρ z.H) Q E):Q v z.s:=by
 induction r with
 |val y=>exact jD (cf:=cf) hr w
 |slot i=>exact jD (cf:=cf) hr w
 |own o=>induction o with
  |list vs=>exact BU hr w
  |_=>exact jD (cf:=cf) hr w
theorem Po.shared(w:Po b bK z (.ok (.val (.ref z.H.length)) z.ρ (z.H++[o])) Q E)(k:Keeps z.s.heap h')(n: ∀a,Pl o.bk p a->z.s.heap.get? a=none)(h:dZ C.P z.y h' o p):Q (.ref p.a) {z.s with heap:=h',toks:=t}:=by
 obtain ⟨I,A⟩:=z.iR k t;obtain ⟨y,I2,A2,e2⟩:=Z.share ⟨z.y,z.ρ,z.H,_,I⟩ ⟨λa q=>z.no (n a q),h⟩;exact w.ok' rfl ⟨y,z.ρ,_,_,I2⟩ (A.trans A2).lax ⟨p,e2,rfl⟩
theorem pl1{h:Heap}(hn:h.get? p.a=none): ∀a,Pl false p a->h.get? a=none:=λU q=>q.elim (λq=>q▸hn) λq=>nomatch q.1
end
theorem En(h:Each sc hb es ms)(pos:Pos):aV sc hb (.List es pos) (sO ms):=λk z Q E w=>
 wpAny_List_spliced (one (jE h) w λa z' x w U r=>w.guard λg w=>⟨r.len▸bE g,w.shared (p:=⟨_,0⟩) (t:=z'.s.toks) (Keeps.push _ _) (pl1 (aN _)) ⟨x.toArray,0,da _ rfl,r.arr⟩⟩)
theorem iw(h:iI o=some l):o=.list l:=by rcases o with _|_<;>first|(cases ag (h);rfl)|exact bw h
theorem Jh{l}(h:Dq o=some l):o=.dict l:=by rcases o with _|_<;>first|(cases ag (h);rfl)|exact bw h
theorem Ji{p}(h:Lg o=some p):o=.inst p.1 p.2:=by rcases o with _|_<;>first|(cases ag (h);rfl)|exact bw h
theorem Jj{l}(h:Lh o=some l):o=.jS l:=by rcases o with _|_<;>first|(cases ag (h);rfl)|exact bw h
theorem yg{α:Type}{x:Option α}{G:Prop}(h:x.isSome=true)(k: ∀a,x=some a->G):G:=by
 induction x with
 |none=>exact bI h
 |some a=>exact k a rfl
section
variable{C:Cx}{z:Z C}{r:R}{x:Value}{b:Bool}{G:Prop}
theorem yh(hr:bK C z r x)(h:ML r z.ρ z.H=some o)(k: ∀ix p,dg z.ρ z.H ix=some o->z.y.φ ix=some p->x=.ref p.a->dZ C.P z.y z.s.heap o p->G):G:=
 aQ h λix e h=>(DK hr e h).elim λp q=>k ix p h q.1 q.2 (z.ob h q.1).o
theorem Eo(hr:bK C z r x)(h:MM iI r z.ρ z.H=true)(k: ∀a xs ep,x=.ref a->z.s.heap.get? a=some {cls:=.type "list",data:=.seq xs ep}->G):G:=
 yg h λl h=>aQ h λo e h=>yh hr e λix p U U q w=>by rw [iw h] at w;exact w.elim λxs w=>w.elim λep w=>k p.a xs ep q w.1
section
variable{α γ:Type}{rel:Rl α γ}{Q:γ->Shared->Prop}{E:Value->Shared->Prop}
theorem rQ(hr:bK C z r x)(w:Po b rel z ((kI r f z.ρ z.H).bind g) Q E)(k: ∀ix o p u,dg z.ρ z.H ix=some o->z.y.φ ix=some p->x=.ref p.a->f o=some u->pA C.P z.y z.s.heap ix o p->Po b rel z (g u.2 (qN z.ρ ix u.1) (sX z.H ix u.1)) Q E->G):G:=by
 unfold kI at w;revert w;cases e1:Vf r with
 |none=>exact λw=>w.fits.elim
 |some ix=>
  show Po b rel z ((oB (bb (dg z.ρ z.H ix) f) _).bind g) Q E->G;cases e2:bb (dg z.ρ z.H ix) f with
  |none=>exact λw=>w.fits.elim
  |some u=>exact λw=>aQ e2 λo e3 h=>(DK hr e1 e3).elim λp q=>k ix o p u e3 q.1 q.2 h (z.ob e3 q.1) w
end
variable{Q E:Value->Shared->Prop}
theorem Po.put(w:Po b bK z (.ok (.val u) (qN z.ρ ix o') (sX z.H ix o')) Q E)(e:dg z.ρ z.H ix=some o)(hp:z.y.φ ix=some p)(hi:o'.bk=o.bk)(ha:Pl o.bk p a)(k:eC a z.s.heap h')(hO:dZ C.P z.y h' o' p)(hu:az z.y u y)(t:Nat):Q y {z.s with heap:=h',toks:=t}:=
 (z.Lo e hp hi ha k hO t).elim λI A=>w.ok' rfl ⟨z.y,_,_,_,I⟩ A.lax hu
theorem Ah(h:Heap)(a:Addr)(f:Obj->Obj):eC a h (h.update a f):=(lk ..).extBut
theorem Po.putL{vs ws:List V}(w:Po b bK z (.ok (.val u) (qN z.ρ ix (.list ws)) (sX z.H ix (.list ws))) Q E)(e:dg z.ρ z.H ix=some (.list vs))(hp:z.y.φ ix=some p)(h1:z.s.heap.get? p.a=some {cls:=.type "list",data:=.seq xs ep})(h2:aB z.y ws (g xs).toList)(hu:az z.y u y)(t:Nat):
  Q y {z.s with heap:=z.s.heap.update p.a (sr g),toks:=t}:=
 w.put e hp rfl (.inl rfl) (Ah _ _ _) ⟨_,_,ew (sr g) h1 rfl,h2⟩ hu t
theorem Ep(hr:bK C z r x)(h:Dr r z.ρ z.H=some l)(k: ∀a xs ep,x=.ref a->z.s.heap.get? a=some {cls:=.type "list",data:=.seq xs ep}->aB z.y l xs.toList->G):G:=by
 have go: ∀{o p},iI o=some l->x=.ref p.a->dZ C.P z.y z.s.heap o p->G:=λe q w=>by rw [iw e] at w;exact w.elim λxs w=>w.elim λep w=>k _ xs ep q w.1 w.2
 induction r with
 |own o=>exact hr.elim λp w=>go h w.1 w.2.o
 |val y=>exact aQ h λo e h=>yh hr e λix p U U q w=>go h q w
 |slot i=>exact aQ h λo e h=>yh hr e λix p U U q w=>go h q w
theorem Er(h:o7 l=some v):l=init l++[v]:=by
 induction l with
 |nil=>exact bw h
 |cons a l ih=>induction l with
  |nil=>cases ag (h);rfl
  |cons b r=>exact congrArg (λU=>a::U) (ih h)
theorem aB.split{a b:List V}(h:aB y (a++b) xs): ∃p q,xs=p++q/\aB y a p/\aB y b q:=by
 induction a generalizing xs with
 |nil=>exact ⟨[],xs,rfl,rfl,h⟩
 |cons v a ih=>obtain ⟨x,r,rfl,hv,h⟩:=h;exact (ih h).elim λp h=>h.elim λq h=>⟨x::p,q,congrArg (λU=>x::U) h.1,⟨x,p,rfl,hv,h.2.1⟩,h.2.2⟩
theorem Jk{α:Type}(p:List α)(x:α):(p++[x]).eraseIdx p.length=p:=by
 induction p with
 |nil=>rfl
 |cons a p ih=>exact congrArg (λU=>a::U) ih
theorem aB.init{xs:Array Value}(h:aB y l xs.toList)(e:o7 l=some v): ∃x,xs[xs.size-1]?=some x/\az y v x/\aB y (MP.init l) (xs.eraseIdxIfInBounds (xs.size-1)).toList:=by
 refine ae λaA=>?_;obtain ⟨p,q,e1,hp,x,r,rfl,hx,hr⟩:=(Er e▸h:aB y (MP.init l++[v]) xs.toList).split;refine aA ?_;cases hr;have ex:xs=(p++[x]).toArray:=(Array.toArray_toList (xs:=xs)).symm.trans (congrArg List.toArray e1);subst ex;refine ⟨x,by simp,hx,?_⟩;simp only [Array.eraseIdxIfInBounds,aay,dk,List.length_singleton,xn,km,dite_true,List.eraseIdx_toArray,Jk];exact hp
section
variable{p:cy×V}{v:V}{ws:List V}{o:cy}
theorem R4(h:MN v o=some p)(k: ∀vs,o=.list vs->bf vs.length=true->p=(.list (vs++[v]),.none)->G):G:=aQ h λvs e h=>cN h λg h=>k vs (iw e) g (ag h).symm
theorem R5(h:MO ws o=some p)(k: ∀vs,o=.list vs->bf (vs.length+ws.length)=true->p=(.list (vs++ws),.none)->G):G:=aQ h λvs e h=>cN h λg h=>k vs (iw e) g (ag h).symm
theorem R6(h:MQ o=some p)(k: ∀vs v,o=.list vs->bf vs.length=true->o7 vs=some v->p=(.list (init vs),v)->G):G:=aQ h λvs e h=>cN h λg h=>aQ h λv e2 h=>k vs v (iw e) g e2 (ag h).symm
theorem N3(hr:bK C z r x)(w:Po true bK z (vn (kI r (MN v) z.ρ z.H)) Q E)(hv:az z.y v y)(k: ∀a xs ep,x=.ref a->xs.size<=abQ->z.s.heap.get? a=some {cls:=.type "list",data:=.seq xs ep}->Q .none {z.s with heap:=z.s.heap.update a (sr λxs=>xs.push y)}->G):G:=
 rQ hr w λix o p u e1 e2 e3 h ob w=>R4 h λvs q g e=>by
  subst q e;obtain ⟨xs,ep,h1,h2⟩:=ob.o;exact k _ xs ep e3 (di h2▸bE g) h1 (w.putL e1 e2 h1 (g:=λxs=>xs.push y) (by rw [aaz];exact h2.app ⟨y,[],rfl,hv,rfl⟩) rfl z.s.toks)
theorem N4(hr:bK C z r x)(w:Po true bK z (vn (kI r (MO ws) z.ρ z.H)) Q E)(hv:aB z.y ws ys.toList)(k: ∀a xs ep,x=.ref a->xs.size+ys.size<2^23->z.s.heap.get? a=some {cls:=.type "list",data:=.seq xs ep}->Q .none {z.s with heap:=z.s.heap.update a (sr λxs=>xs++ys)}->G):G:=
 rQ hr w λix o p u e1 e2 e3 h ob w=>R5 h λvs q g e=>by
  subst q e;obtain ⟨xs,ep,h1,h2⟩:=ob.o;exact k _ xs ep e3 (di h2▸di hv▸fj g) h1 (w.putL e1 e2 h1 (g:=λxs=>xs++ys) (by rw [wd];exact h2.app hv) rfl z.s.toks)
theorem pop_at(hr:bK C z r x)(w:Po true bK z (vn (kI r MQ z.ρ z.H)) Q E)(k: ∀a xs ep y,x=.ref a->xs.size<=abQ->xs[xs.size-1]?=some y->z.s.heap.get? a=some {cls:=.type "list",data:=.seq xs ep}->Q y {z.s with heap:=z.s.heap.update a (sr λus=>us.eraseIdxIfInBounds (xs.size-1))}->G):G:=
 rQ hr w λix o p u e1 e2 e3 h ob w=>R6 h λvs v q g hl e=>by
  subst q e;obtain ⟨xs,ep,h1,h2⟩:=ob.o;obtain ⟨y,y1,y2,y3⟩:=h2.init hl;exact k _ xs ep y e3 (di h2▸bE g) y1 h1 (w.putL e1 e2 h1 (g:=λus=>us.eraseIdxIfInBounds (xs.size-1)) y3 y2 z.s.toks)
end
end
section
variable{sc:abL}{hb:Bool}{o e:bp}{mo me:M R}(hO:aV sc hb o mo)(h0:jF o)(ap pos:Pos)(hl:bo ap.endLine pos.line=true)
theorem jH{ap pos:Pos}(hl:bo ap.endLine pos.line=true):(ap.endLine==pos.line)=true:=beq_iff_eq.mpr (cq hl)
theorem tS(h:Plain e)(pos:Pos)(env:dq):ab1 pos (abU [e] env)=[(false,eval e env)]:=by rw [h];rfl
theorem N5(h:Plain e)(h':Plain f)(pos:Pos)(env:dq):ab1 pos (abU [e,f] env)=[(false,eval e env),(false,eval f env)]:=by rw [h,h'];rfl
theorem tU{C:Cx}{id:String}(e:x=.ref p)(h1:s.heap.get? p=some {cls:=.type "list",data:=.seq xs ep})(hs:xI "list" nm id)(ht:ad0 (.builtin id)=pure (.type "method_descriptor"))
  (h:wpAny C.M C.A (ab2 pos (.builtin id) [.ref p] trees []) Q E s):MethodOn PT C.w C.A nm pos x trees Q E s:=by
 subst e;exact ⟨"list",id,F.plainAttrs_list,hs,ht,⟨_,h1,rfl⟩,λb hb=>⟨_,by cases hb;exact h1,rfl⟩,h⟩
include hO h0 hl
theorem BW(hE:aV sc hb e me)(he:Plain e):aV sc hb (.Call (.Attribute o "append" ap) [e] [] pos) (bN mo me):=λk z Q E w=>
 wpAny_Call_method1_late (h0 _ _ _) (jH hl) (tS he _ _) (one hO w λa z1 x w U hr=>w.guard λq w=>Eo hr q λp xs ep e h1=>tU pos e h1 aah F.type_list_append
  (method1 (snd (x:=x) dm ji hE.qM hr w λb z2 y w U hr2 hy=>N3 hr2 w hy λa xs ep e2 n h2 q=>by cases e.symm.trans e2;exact u9 n h2 q)))
theorem BX(hE:aV sc hb e me)(he:Plain e):aV sc hb (.Call (.Attribute o "extend" ap) [e] [] pos) (dh mo me):=λk z Q E w=>
 wpAny_Call_method1_late (h0 _ _ _) (jH hl) (tS he _ _) (one hO w λa z1 x w U hr=>w.guard λq w=>Eo hr q λp xs ep e h1=>tU pos e h1 aai F.type_list_extend
  (method1 (snd (x:=x) dm fH hE hr w λb z2 y w U hr2 hy=>w.opt λus e2 w=>Ep hy e2 λpb ys epb e3 b1 b2=>N4 hr2 w b2 λa xs ep e4 n h2 q=>by
   cases e.symm.trans e4;have hz:abQ=16777216:=aea;subst e3;exact vc (by lia) (by lia) (by unfold Nw;simp;intro _;lia) h2 b1 q)))
theorem N6:aV sc hb (.Call (.Attribute o "pop" ap) [] [] pos) (qQ mo):=λk z Q E w=>
 wpAny_Call_method0_late (h0 _ _ _) (jH hl) (one hO w λa z1 x w U hr=>pop_at hr w λa xs ep y e n hy h1 q=>tU pos e h1 F.slot_list_pop F.type_list_pop (Kl<|P.pop_list h1 hy q n))
end
section
variable{sc:abL}{hb:Bool}
theorem Jl:tB (λC z (a:R×V) (c:Value×Value)=>bK C z a.1 c.1/\mR C z a.2 c.2):=λC z a c x=>by
 refine ae λaA=>?_;obtain ⟨y,I,A,back⟩:=dm C z a.1 c.1 x.1;refine aA ?_;exact ⟨y,I,A,λz' A'=>by obtain ⟨y',I',A2,l,r⟩:=back z' A';exact ⟨y',I',A2,l,r,x.2.mono A2.toUp⟩⟩
end
end MP
end Mine.Lake
end
section
namespace Mine.Lake
namespace MP
open PySem PySem.W PyProof.Rows
section
variable{C:Cx}{z:Z C}{Q E:Value->Shared->Prop}
theorem N7(hx:cW z d x)(ea:x=.ref a)(hk:az z.y kv y)(hu:az z.y dv u)(h:getD d kv dv=some r)(N:kO z r Q): ∃k f,(ed PT C.w).is k y=true/\z.s.heap.MapOf (ed PT C.w) a f/\Q ((f k).getD u) {z.s with toks:=z.s.toks+1}:=
 aQ h λkvs e1 h=>aQ h λs e2 h=>by
  rw [lS e2] at hk;refine ae λaA=>?_;obtain ⟨t,rfl⟩:=hk;have hd:=hx.d _ e1;subst ea;cases hd with|@mk p hO hj=>
  obtain ⟨es,he,hD⟩:=hO.dictOf;refine aA ?_;refine ⟨strOf s,_,cR _ _,hD.mapOf,?_⟩;cases q:bX s kvs with
  |none=>rw [q] at h;rw [pH he q];exact N.v h _ _ hu
  |some v=>rw [q] at h;obtain ⟨x,x1,x2⟩:=kP he q;rw [x1];exact N.v h _ _ x2
theorem kh.obj(h:kh z k x): ∃a ob,x=.ref a/\z.s.heap.get? a=some ob/\ob.cls=.type "dict"/\ob.dict=none/\z.y.J a=none:=by
 induction h with|mk h j=>obtain ⟨ob,es,ep,o1,o2,_⟩:=h;exact ⟨_,ob,rfl,o1,o2.1,o2.2.1,j⟩
end
section
variable{sc:abL}{hb:Bool}
theorem N8(hO:aV sc hb o mo)(hK:aV sc hb k mk)(hD:aV sc hb d md)(h0:jF o)(hk:Plain k)(hd:Plain d)(ap pos:Pos)(hl:bo ap.endLine pos.line=true):aV sc hb (.Call (.Attribute o "get" ap) [k,d] [] pos) (Dt mo mk md):=λK z Q E w=>
 wpAny_Call_method2_late (h0 _ _ _) (jH hl) (N5 hk hd _ _) (one hO w λa z1 x w U hr=>w.guard λq w=>yg q λl q=>by
  refine ae λaA=>?_;obtain ⟨p,ob,e,o1,o2,o3,hj⟩:=((rd hr).d _ q).obj;subst e;refine aA ?_;exact ⟨"dict","dict.get",F.plainAttrs_dict,aa3,F.type_dict_get,⟨_,o1,o2⟩,λb hb=>⟨_,by cases hb;exact o1,o3⟩,ME (knd:=ed PT K.C.w) (Io hj) (snd dm ji hK.plain hr w λkv z2 y w U hr2 hy=>
   snd (a:=(a,kv)) (x:=(.ref p,y)) Jl ji hD.qM ⟨hr2,hy⟩ w λdv z3 u w U Zg hu=>w.opt λr e w=>N7 (rd Zg.1) rfl Zg.2 hu e w.new)⟩)
end
def jU:Rl Unit Unit:=λU U U U=>True
def eH(b:Bool)(sc:abL)(t:bp)(tg:R->M Unit):Prop:= ∀(k:Kx sc false) (z:Z k.C) r v Q E,bK k.C z r v->Po b jU z (tg r k.cf z.ρ z.H) (λU=>Q) E->wpAny k.M k.A (assign t k.C.env v) (λU=>Q) E z.s
theorem bY.of(l:Le z.y z'.y):bY false z z':=⟨l,λh=>bI h⟩
theorem Po.unit{z:Z C}{Q:Shared->Prop}(w:Po false jU z (.ok () ρ H) (λU=>Q) E)(z':Z C)(l:Le z.y z'.y)(e1:autoParam (z'.ρ=ρ) hZ._auto_4)(e2:autoParam (z'.H=H) hZ._auto_4):Q z'.s:=w.ok () z' () (by rw [e1,e2]) (.of l) trivial
section
variable{sc:abL}
theorem eH.bad:eH b sc t (λU=>cF):=λU U U U U U U w=>w.fits.elim
theorem vO(h:Li s=false): ∀u,s≠ .fix u:=λu e=>by rw [e] at h;exact bI h.symm
section
variable{k:Kx sc false}{x:Str}{i:Nat}{v:Value}{Q:Shared->Prop}{E:Value->Shared->Prop}{kd:NameKind}(hk:aU k.C.sc.names i=some (x,kd))(ho:gM kd=true)
include hk ho
theorem oJ{z:Z k.C}(hv:az z.y y v)(w:Po false jU z (Bt i (.val y) k.cf z.ρ z.H) (λU=>Q) E):wpAny k.M k.A (acm k.C.env x v) (λU=>Q) E z.s:=
 w.cond (λU w=>w.fits.elim) λh1 w=>Kl<|eF k.fe hk ho (vO h1) (sl:=.val y) ⟨Le.refl _,λU U h=>h,λU U h=>.inl h,λU U=>rfl,hv⟩ λh' t I U U U=>w.unit ⟨_,_,_,_,I⟩ (Le.refl _)
theorem set_own(hr:bK k.C z (.own o) v)(w:Po false jU z (Bt i (.own o) k.cf z.ρ z.H) (λU=>Q) E):wpAny k.M k.A (acm k.C.env x v) (λU=>Q) E z.s:=by
 obtain ⟨p,rfl,hO⟩:=hr;obtain ⟨y,c⟩:=Cl.make (x:=.own i) hO.n;have l:=c.le (y:=z.y) nofun
 exact w.cond (λU w=>w.fits.elim) λh1 w=>Kl<|eF k.fe hk ho (vO h1) (sl:=.own o) ⟨l,λU U h=>c.up h,λU U h=>(c.new h).imp id λq=>⟨q.1,q.2.2,(hO.o.pl q.2.1).imp λU h=>h.1⟩,λU h=>c.φ h,p,rfl,c.ob l.toUp hO⟩ λh' t I U U U=>w.unit ⟨_,_,_,_,I⟩ l
end
theorem lZ{z:Z C}{rel:Rl α Unit}{f:V->MP.Env->Hp->Out α}{Q:Unit->Shared->Prop}{K:Shared->Prop}(hr:bK C z r v)(w:Po b rel z ((qM r cf z.ρ z.H).bind f) Q E)(h: ∀y (z':Z C),Po b rel z' (f y z'.ρ z'.H) Q E->bY b z z'->az z'.y y v->K z'.s):K z.s:=
 jD (cf:=cf) hr (w.first (b1:=true) (dN:=mR) (K:=λv' s=>v'=v->K s) (λU=>rfl) λy z' u w A hv e=>h y z' w A (e▸hv)) rfl
theorem Es(h:iQ sc x=some i)(pos:Pos):eH false sc (.Name x pos) (aj i):=λk z r v Q E hr w=>by
 refine ae λaA=>?_;obtain ⟨kd,hk,ho⟩:=cV h;refine aA ?_;rw [<-k.hs] at hk;refine wpAny_assign_Name ?_;induction r with
 |val y=>exact oJ hk ho hr w
 |slot j=>exact lZ hr w λy z' w U hv=>oJ hk ho hv w
 |own o=>exact set_own hk ho hr w
abbrev pO(t:bp):Prop:= ∀ts env,ab9 (t::ts) env=(false,assign t env)::ab9 ts env
abbrev kT(sc:abL):List bp->List (R->M Unit)->Prop:=cM λt g=>pO t/\eH false sc t g
theorem jo(h:kT sc ts gs)(env:dq):(ab9 ts env).length=ts.length/\(ab9 ts env).findIdx? (λU=>U.1)=none:=by
 induction h with
 |nil=>exact ⟨rfl,rfl⟩
 |cons h _ ih=>rw [h.1];exact ⟨congrArg (λU=>U+1) ih.1,by rw [List.findIdx?_cons];simp [ih.2]⟩
theorem Jm(h:kT sc ts gs){k:Kx sc false}{z:Z k.C}{vs:List V}{Q:Shared->Prop}(hv:aB z.y vs xs)(w:Po false jU z (zS gs vs k.cf z.ρ z.H) (λU=>Q) E):
  wpAny k.M k.A (acp ((ab9 ts k.C.env).map (λU=>U.2)) xs) (λU=>Q) E z.s:=by
 induction h generalizing z vs xs with
 |nil=>induction vs with
  |nil=>cases hv;exact Kl<|adx (w.unit z (Le.refl _))
  |cons=>exact w.fits.elim
 |cons h _ ih=>cases vs with
  |nil=>exact w.fits.elim
  |cons v vs=>
   obtain ⟨x,r,rfl,hx,hv⟩:=hv;rw [h.1];exact wpAny_assignInOrder_more (h.2 k z (.val v) x _ E hx (w.first (dN:=jU) (K:=λU s=>wpAny k.M k.A (acp _ r) (λU=>Q) E s) (λh=>h) λU z' U w A U=>ih (hv.mono A.toUp) w))
theorem Jo(h:kT sc ts gs)(x1:Nat)(pos:Pos):eH false sc (.Tuple ts x1 pos) (dX gs):=λk z r v Q E hr w=>w.opt λl e w=>w.guard λn w=>by
 have ht:=eG.kept (c:="tuple") ((rd hr).t _ e);induction ht with|mk h1 h2=>
 obtain ⟨l1,l3⟩:=jo h k.C.env;refine wpAny_assign_Tuple (k.hh rfl) h1 (by rw [l1,h.len,cq n,di h2]) l3 λh' kk=>?_;have iS:=z.iR (h':=h') (λb ob hb=>kk b ob (λe=>by subst e;exact nomatch (aN _).symm.trans hb) hb) z.s.toks;have I:=iS.1;have A:=iS.2;exact Jm h (z:=⟨z.y,z.ρ,z.H,{z.s with heap:=h'},I⟩) h2 (w.mH (.of A.toLe))
end
end MP
end Mine.Lake
end
section
namespace Mine.Lake
namespace MP
open PySem PySem.W PyProof.Rows
section
variable{prog:Program}{w:abR}{A:Around}{E:Value->Shared->Prop}{s:Shared}
theorem yi{k:Int}{Q:Unit->Shared->Prop}(ho:s.heap.get? l=some {cls:=.type "list",data:=.seq items ep})(h0:0<=k)(hfit:k<2^63)(hn:k<items.size)
  (hQ:Q () {s with heap:=s.heap.update l (sr (λU=>U.setIfInBounds k.toNat v))}):ax (abJ prog w) A (ac2 (.ref l) (.int k t) v) Q E s:=by
 have hl:s.heap.IsList l items:=⟨_,ho,rfl,ep,rfl⟩;have hd:({cls:=.type "list",data:=.seq items ep}:Obj).data=.seq items ep:=rfl;unfold ac2
 try with_reducible refine wa ?_
 first|refine bc (cp ?_)|skip
 refine bc (ad7 hl.typeIs (by decide) ?_);refine bc (uk (name:=ei "__setitem__") hl.typeIs ad8
  (ub ad8 hl.typeIs entry_list_setitem ?_ (args_list_setitem _ _ _)))
 show ax _ _ (Builtin.List.listSubscript? (.int k t)>>=_) _ _ s;refine bc (wpAny_listSubscript_int (fitsIndex_of h0 hfit) ?_);clear hfit;obtain ⟨j,rfl⟩:=Int.eq_ofNat_of_zero_le h0;have hj:j<items.size:=by lia
 have hx':items[j]?=some items[j]:=Array.getElem?_eq_getElem hj;refine bc (bc (wpAny_seqItemAt ho hd (cp ?_)));rw [hx'];show ax _ _ (setSeqItemAt l j v>>=_) _ _ s;refine bc (wpAny_setSeqItemAt ho hd ?_)
 first
  |exact bc (cp (cp ⟨.none,rfl,cp hQ⟩))
  |exact cp ⟨.none,rfl,cp hQ⟩
end
theorem aB.put(h:aB y l xs)(hv:az y v x):aB y (MP.put l n v) (xs.set n x):=by
 induction l generalizing xs n with
 |nil=>cases h;rfl
 |cons a l ih=>
  obtain ⟨u,r,rfl,hu,h⟩:=h;cases n with
  |zero=>exact ⟨x,r,rfl,hv,h⟩
  |succ n=>exact ⟨u,r.set n x,rfl,hu,ih h⟩
noncomputable def tX(y:Wd):List (List Nat×V)->List (Str×Value)->Prop
 |[],ps=>ps=[]
 |(k,v)::r,ps=> ∃x r',ps=(strOf k,x)::r'/\az y v x/\tX y r r'
theorem vP{ps:List (Str×Value)}(h:k0≠k):ad1 ((k0,y0)::ps) k v=(k0,y0)::ad1 ps k v:=by
 unfold ad1;simp only [Dx,oC,h,decide_false,abq,if_false];split<;>rfl
theorem vQ{ps:List (Str×Value)}(h: ∀p∈ps,p.1≠k):ad1 ((k,y0)::ps) k v=(k,v)::ps:=by
 unfold ad1;simp only [Dx,oC,decide_true,abC,if_true];congr 1
 have: ∀(l:List (Str×Value)),(∀p∈l,p.1≠k)->l.map (λkv=>if kv.1=k then (kv.1,v) else kv)=l:=by
  intro l;induction l with
  |nil=>intro _;rfl
  |cons p l ih=>intro h;rw [oC,if_neg (h p (bj ..)),ih λq hq=>h q (cb _ hq)]
 exact this ps h
theorem any_cons{α:Type}{p:α->Bool}{a:α}{l:List α}(h:(a::l).any p=false):p a=false/\l.any p=false:=Ha.mp h
section
variable{y:Wd}{P:abK}{kvs:List (List Nat×V)}
theorem yj(h:fN P y kvs es):tX y kvs (gF kvs es):=by
 induction kvs generalizing es with
 |nil=>cases h;rfl
 |cons a kvs ih=>obtain ⟨t,x,r,rfl,hv,h⟩:=h;exact ⟨x,gF kvs r,rfl,hv,ih h⟩
theorem BY(h:tX y kvs ps)(n:(kvs.map (λU=>U.1)).any (bP k)=false): ∀p∈ps,p.1≠strOf k:=by
 induction kvs generalizing ps with
 |nil=>cases h;exact λU h=>nomatch h
 |cons a kvs ih=>
  obtain ⟨x,r,rfl,_,h⟩:=h;have n:=any_cons n;exact λp hp=>(de.mp hp).elim (λq e=>kN n.1 (gR (by rw [q] at e;exact e)).symm) (ih h n.2 p)
theorem Ai(hx:az y u x)(h:tX y kvs ps)(hd:distinct (kvs.map (λU=>U.1))=true):tX y (nY k u kvs) (ad1 ps (strOf k) x):=by
 induction kvs generalizing ps with
 |nil=>cases h;exact ⟨x,[],rfl,hx,rfl⟩
 |cons a kvs ih=>
  obtain ⟨x0,r,rfl,hv,h⟩:=h;have hd:=oh hd;show tX y (cond (bP k a.1) ((a.1,u)::kvs) (a::nY k u kvs)) _;cases q:bP k a.1 with
  |true=>
   have e:=dP q;subst e;rw [vQ (BY h hd.1)];exact ⟨x,r,rfl,hx,h⟩
  |false=>
   rw [vP (λe=>kN q (gR e).symm)];exact ⟨x0,_,rfl,hv,ih h hd.2⟩
theorem Et:((nY k u kvs).map (λU=>U.1)).any (bP j)=((kvs.map (λU=>U.1)).any (bP j)||bP j k):=by
 induction kvs with
 |nil=>exact aal ..
 |cons a kvs ih=>
  show (aaS (λU=>U.1) (cond (bP k a.1) ((a.1,u)::kvs) (a::nY k u kvs))).any (bP j)=_;cases q:bP k a.1 with
  |true=>
   have e:=dP q;subst e;show _=(bP j a.1||_||bP j a.1);rw [aal (bP j a.1),abr,Bool.or_self];exact aal ..
  |false=>show (bP j a.1||_)=(bP j a.1||_||_);rw [ih,abr]
theorem l5(h:distinct (kvs.map (λU=>U.1))=true):distinct ((nY k u kvs).map (λU=>U.1))=true:=by
 induction kvs with
 |nil=>rfl
 |cons a kvs ih=>
  have hd:=oh h;show distinct (aaS (λU=>U.1) (cond (bP k a.1) ((a.1,u)::kvs) (a::nY k u kvs)))=true;cases q:bP k a.1 with
  |true=>exact h
  |false=>
   show cond (((nY k u kvs).map (λU=>U.1)).any (bP a.1)) false _=true;rw [Et,hd.1,show bP a.1 k=false by rw [lP];exact decide_eq_false λe=>kN q e.symm];exact ih hd.2
end
theorem N9{e:ab3}(h1:(ed prog w).is (strOf k) e.key=true)(h2:e.val=x)(h3: ∃k,(ed prog w).is k e.key=true/\e.hash=(ed prog w).hash k): ∃t,e=⟨keyHash w.params k,.str (strOf k) t,x⟩:=by
 obtain ⟨hs,key,val⟩:=e;obtain ⟨t,rfl⟩:=aab (show abt (strOf k) key=true from h1);obtain ⟨k',e1,rfl⟩:=h3;cases (ed prog w).inj _ _ _ (cR _ _) e1;cases h2;exact ⟨t,rfl⟩
theorem Lv(h:tX y kvs ps)(hp:Pairs (ed prog w) es ps)(hk: ∀e∈es, ∃k,(ed prog w).is k e.key=true/\e.hash=(ed prog w).hash k):fN w.params y kvs es:=by
 induction hp generalizing kvs with
 |nil=>cases kvs with
  |nil=>rfl
  |cons=>obtain ⟨_,_,h,_⟩:=h;cases h
 |cons h1 h2 h3 ih=>cases kvs with
  |nil=>cases h
  |cons a kvs=>
   obtain ⟨x,r,e,hv,h⟩:=h;cases e;have hk:=du.mp hk;obtain ⟨t,rfl⟩:=N9 h1 h2 hk.1;exact ⟨t,x,_,rfl,hv,ih h hk.2⟩
section
variable{C:Cx}{z:Z C}{p:PA}{v:V}{x u:Value}{Q:Unit->Shared->Prop}{E:Value->Shared->Prop}(hv:az z.y v x)
include hv
theorem set_list{vs:List V}{m:Nat}(hu:az z.y (.int m) u)(hO:dZ C.P z.y z.s.heap (.list vs) p)(lt:m<vs.length)(hm:bf m=true)(k: ∀h',dZ C.P z.y h' (.list (put vs m v)) p->eC p.a z.s.heap h'->Q () {z.s with heap:=h'}):ax C.M C.A (ac2 (.ref p.a) u x) Q E z.s:=by
 refine ae λaA=>?_;obtain ⟨t,rfl⟩:=hu;obtain ⟨xs,ep,h1,h2⟩:=hO;refine aA ?_;exact yi h1 (eI m) (xi (js.mpr (fj hm)) (by decide)) (js.mpr (di h2▸lt)) (k _ ⟨_,_,ew (sr (λU=>U.setIfInBounds m x)) h1 rfl,by rw [Array.toList_setIfInBounds];exact h2.put hv⟩ (Ah _ _ _))
theorem set_dict(hu:az z.y (.str k) u)(hO:dZ C.P z.y z.s.heap (.dict kvs) p)(hl:bf kvs.length=true)(kk: ∀h' t',dZ C.P z.y h' (.dict (nY k v kvs)) p->eC p.a z.s.heap h'->Q () {z.s with heap:=h',toks:=t'}):ax C.M C.A (ac2 (.ref p.a) u x) Q E z.s:=by
 refine ae λaA=>?_;obtain ⟨t,rfl⟩:=hu;obtain ⟨es',Xb,hD⟩:=hO.dictOf;obtain ⟨ob,es,ep,h1,h2,h3,h4,h5⟩:=hO;refine aA ?_;refine wpAny_setItem_pairs (cR (prog:=PT) (w:=C.w) _ _) hD (λh' hD' hs=>kk h' _ ?_ hs.extBut) (by unfold gF;rw [aa5,df,df,xX Xb,N0, <-xX Xb];exact bE hl);refine ae λb8=>?_;obtain ⟨o',es',HX,k1,k2,k3,k4,k5,_⟩:=hD';refine b8 ?_;exact ⟨o',es',HX,k1,k2,k3,Lv (Ai hv (yj Xb) h5) k5 (λe he=>k4 e (vw.mp he)),l5 h5⟩
end
section
variable{C:Cx}{z:Z C}{b:Bool}{Q:Shared->Prop}{E:Value->Shared->Prop}
theorem Po.Jp(w:Po b jU z (.ok () (qN z.ρ ix o') (sX z.H ix o')) (λU=>Q) E)(e:dg z.ρ z.H ix=some o)(hp:z.y.φ ix=some p)(hi:o'.bk=o.bk)(ha:Pl o.bk p a)(k:eC a z.s.heap h')(hO:dZ C.P z.y h' o' p)(t:Nat):Q {z.s with heap:=h',toks:=t}:=
 (z.Lo e hp hi ha k hO t).elim λI A=>w.ok' (v:=()) rfl ⟨z.y,_,_,_,I⟩ A.lax trivial
theorem R7{G:Prop}(h:MU d v o=some p)(k1: ∀(n:Nat) vs,d.i=some (n:Int)->o=.list vs->n<vs.length->bf n=true->p.1=.list (put vs n v)->G)(k2: ∀s kvs,d.s=some s->o=.dict kvs->bf kvs.length=true->p.1=.dict (nY s v kvs)->G):G:=
 gq h (λi e1 h=>aQ h λn e2 h=>aQ h λvs e3 h=>cN h λg h=>gz g λg1 g2=>k1 n vs (lT e2▸e1) (iw e3) (aZ g1) g2 (congrArg (λU=>U.1) (ag h)).symm) λh=>
 aQ h λs e1 h=>aQ h λkvs e2 h=>cN h λg h=>k2 s kvs e1 (Jh e2) g (congrArg (λU=>U.1) (ag h)).symm
theorem Oa(ho:bK C z o x)(hd:cW z d u)(hv:az z.y v y)(w:Po b jU z (pe (kI o (MU d v) z.ρ z.H)) (λU=>Q) E):ax C.M C.A (ac2 x u y) (λU=>Q) E z.s:=
 rQ ho w λix o p q e1 e2 e3 h ob w=>R7 h (λn vs a1 a2 a3 a4 a5=>by
  subst a2;rw [a5] at w;rw [e3];exact set_list hv (hd.i _ a1) ob.o a3 a4 λh' hO k=>w.Jp e1 e2 rfl (.inl rfl) k hO z.s.toks) λs kvs a1 a2 a3 a4=>by
  subst a2;rw [a4] at w;rw [e3];exact set_dict hv (hd.s _ a1) ob.o a3 λh' t' hO k=>w.Jp e1 e2 rfl (.inl rfl) k hO t'
end
theorem Jq{o i:bp}(hO:aV sc false o mo)(hI:aV sc false i mi)(pos:Pos):eH false sc (.Subscript o i pos) (nZ mo mi):=λk z r v Q E hr w=>by
 rw [adU];refine lZ (K:=λs=>wpAny k.M k.A _ (λU=>Q) E s) hr w λy z w U hy=>?_;exact sh (two (K:=λov iv s₂=>wpAny k.M k.A (ac2 ov iv v) (λU=>Q) E s₂) dm fH hO hI w λa c z' x u w A ha hc=>Kl<|Oa ha (rd hc) (hy.mono A.toUp) w) λov s₁ h=>sh h λiv s₂ h=>sd (sh h λU s₃ h=>Kl<|adZ h)
theorem Ob:(bx.map strOf).Nodup:=jm (by kernel_rfl)
theorem Jr:(bx.map strOf).length<=abQ:=by rw [df];exact bt (aw (show eh bx.length 100=true by kernel_rfl)) (by decide)
theorem Js(h1:aU bx i=some x)(h2:aU bx j=some x):i=j:=by
 have lt:=dz h1;rw [cL] at h1 h2;exact (List.getElem?_inj (by rw [df];exact lt) Ob).mp (by rw [rh,rh,h1,h2])
noncomputable def setM(m:Str->Option Value)(nm:Str)(x:Value):Str->Option Value:=λy=>if y=nm then some x else m y
theorem tY(h:a≠nm):setM m nm x a=m a:=if_neg h
section
variable{y:Wd}{k:Nat}{nm:Str}{x:Value}{v:V}{fs:List (Nat×V)}{m:Str->Option Value}(hk:aU bx k=some (sl nm))
include hk
theorem Lw(h:aU bx k'=some l)(n:k'≠k):strOf l≠nm:=λe=>n (Js (h.trans (congrArg some (show l=sl nm from congrArg sl e))) hk)
theorem eN.other(hn: ∀p∈fs,p.1≠k)(h:eN y fs m):eN y fs (setM m nm x):=by
 induction fs with
 |nil=>trivial
 |cons a r ih=>
  refine ae λaA=>?_;obtain ⟨⟨l,u,h1,h2,h3⟩,h⟩:=h;refine aA ?_;exact ⟨⟨l,u,h1,(tY (Lw hk h1 (hn _ bj))).trans h2,h3⟩,ih (λp hp=>hn p (cb _ hp)) h⟩
theorem eN.set(hv:az y v x)(nd:(fs.map (λU=>U.1)).Nodup)(h:eN y fs m):eN y (lC k v fs) (setM m nm x):=by
 have new: ∃l u,aU bx k=some l/\setM m nm x (strOf l)=some u/\az y v u:=⟨_,x,hk,(if_pos (b9 nm)),hv⟩;induction fs with
 |nil=>exact ⟨new,trivial⟩
 |cons a r ih=>
  obtain ⟨k',u⟩:=a;have nd:=iq.mp nd;obtain ⟨⟨l,z,h1,h2,h3⟩,h⟩:=h;change eN y (cond (bo k k') ((k',v)::r) ((k',u)::lC k v r)) _;cases q:bo k k' with
  |true=>
   cases cq q;exact ⟨new,h.other hk λp hp e=>nd.1 (dy.mpr ⟨p,hp,e⟩)⟩
  |false=>exact ⟨⟨l,z,h1,(tY (Lw hk h1 λe=>by rw [e,lL] at q;exact bI q.symm)).trans h2,h3⟩,ih nd.2 h⟩
end
section
variable{k j:Nat}{v:V}{fs:List (Nat×V)}
theorem BZ(h:j∈(lC k v fs).map (λU=>U.1)):j=k\/j∈fs.map (λU=>U.1):=by
 induction fs with
 |nil=>exact .inl (dC.mp h)
 |cons a r ih=>
  change j∈(cond (bo k a.1) ((a.1,v)::r) (a::lC k v r)).map (λU=>U.1) at h;cases q:bo k a.1 with
  |true=>rw [q] at h;exact .inr h
  |false=>
   rw [q] at h;rcases de.mp h with e|h
   ·exact .inr (de.mpr (.inl e))
   ·exact (ih h).imp id (cb _)
theorem yk(h:(fs.map (λU=>U.1)).Nodup):((lC k v fs).map (λU=>U.1)).Nodup:=by
 induction fs with
 |nil=>exact iq.mpr ⟨eP,mB⟩
 |cons a r ih=>
  have h':=iq.mp h;change ((cond (bo k a.1) ((a.1,v)::r) (a::lC k v r)).map (λU=>U.1)).Nodup;cases q:bo k a.1 with
  |true=>exact h
  |false=>exact iq.mpr ⟨λhm=>(BZ hm).elim (λ(e:a.1=k)=>by rw [e,lL] at q;exact bI q.symm) h'.1,ih h'.2⟩
theorem rR:i9 j (lC k v fs)=cond (bo j k) (some v) (i9 j fs):=by
 induction fs with
 |nil=>rfl
 |cons a r ih=>
  change i9 j (cond (bo k a.1) ((a.1,v)::r) (a::lC k v r))=cond _ _ (cond (bo j a.1) (some a.2) (i9 j r));cases q:bo k a.1 with
  |true=>
   cases cq q;show cond (bo j a.1) _ _=_;cases bo j a.1<;>rfl
  |false=>
   show cond (bo j a.1) _ (i9 j (lC k v r))=_;rw [ih];cases q2:bo j a.1 with
   |true=>rw [cq q2,show bo a.1 k=false by cases p:bo a.1 k with|true=>(rw [cq p,lL] at q;exact bI q.symm)|false=>rfl];rfl
   |false=>rfl
end
theorem Dom.set(hk:aU bx k=some (sl nm))(h:Dom fs m):Dom (lC k v fs) (setM m nm x):=by
 refine ⟨yk h.1,λa h2=>?_⟩;by_cases e:a=nm
 ·subst e;exact ⟨k,v,hk,by rw [rR,lL];rfl⟩
 ·rw [tY e] at h2;obtain ⟨k',v',a1,b⟩:=h.2 a h2;refine ⟨k',v',a1,?_⟩;rw [rR];cases q:bo k' k with
  |true=>cases cq q;exact (e (ig (ag (a1.symm.trans hk)))).elim
  |false=>exact b
theorem Dom.within(h:Dom fs m):Oy m (bx.map strOf):=λy hy=>(h.2 y hy).elim λk a=>a.elim λv a=>dy.mpr ⟨_,dQ a.1,b9 y⟩
section
variable{C:Cx}{z:Z C}{Q:Shared->Prop}{E:Value->Shared->Prop}
theorem Eu{o o1:Obj}(hd:o.dict=some d)(h1:o1.cls=o.cls)(h2:o1.data=o.data)(h3:o1.slots=o.slots)(h4: ∀dx,o.dict=some dx->o1.dict=some dx):o1=o:=by
 have e:=h4 d hd;obtain ⟨c1,d1,Xc,Xd⟩:=o1;obtain ⟨c0,d0,Vj,Zi⟩:=o;cases h1;cases h2;cases h3;cases hd;cases e;rfl
theorem gx.fk{h:Heap}(i:gx h.get? c a d m):h.InstFk a (dM c) m:=by
 cases i with|mk h1 h2 h3 h4 h5 g=>cases g with|mk g1 g2 g3 g4 g5 g6 g7=>exact ⟨_,h1,h2,h4,.inr ⟨d,h3,h5,⟨_,_,_,g1,g4,g5,g6,g7⟩,_,g1,g2,g3⟩⟩
theorem gx.dict{h:Heap}(i:gx h.get? c a d m): ∃o,h.get? a=some o/\o.dict=some d:=by cases i with|mk h1 h2 h3=>exact ⟨_,h1,h3⟩
theorem gx.of{h:Heap}(I:h.InstFk a (dM c) m)(e:h.get? a=some o)(q:o.dict=some d):gx h.get? c a d m:=by
 refine ae λaA=>?_;obtain ⟨ox,i1,i2,i3,i4⟩:=I;refine aA ?_;cases ag (e.symm.trans i1);rcases i4 with ⟨i4,_⟩|⟨d',i4,i5,⟨od1,es1,ep1,j1,j4,j5,j6,j7⟩,od2,j8,j2,j3⟩
 ·exact bw (i4.symm.trans q)
 ·cases ag (q.symm.trans i4);cases ag (j1.symm.trans j8);exact .mk i1 i2 q i3 i5 (.mk j1 j2 j3 j4 j5 j6 j7)
theorem yl(hO:dZ C.P z.y z.s.heap (.inst c fs) p)(hb:z.y.W p.a=some (.at u' false))(hk:aU bx k=some (sl nm))(hy:az z.y y v)
  (hq: ∀h' t,eC p.d z.s.heap h'->dZ C.P z.y h' (.inst c (lC k y fs)) p->Q {z.s with heap:=h',toks:=t}):ax C.M C.A (adM (.ref p.a) nm v) (λU=>Q) E z.s:=by
 obtain ⟨m,i,d,r⟩:=hO;obtain ⟨ox,h1,h3⟩:=i.dict;have hNs:=(tH C.P c).ns λU U=>z.base;have hC:=z.base (lV C.P c);have ne:p.a≠dM c:=λe=>by rw [e,aJ (z.I.base _ _ (lV C.P c))] at hb;cases ag (hb)
 generalize z.s=s at*;obtain ⟨h,gens,dr,t,os⟩:=s;refine store_attrFk PySem.F.store_object hC hNs (Ab C.P c bj) (RT C.P c hk) (RU hk) ne (mA:=m) i.fk (λh' tk I' k1 k2=>?_) d.within Jr;have e1:h'.get? p.a=some ox:=(k2 ox h1).elim λo1 e=>Eu h3 e.2.1 e.2.2.1 e.2.2.2.1 e.2.2.2.2▸e.1;refine hq h' tk (λb o hb ho=>?_) ⟨setM m nm v,.of I' e1 h3,d.set hk,r.set hk hy d.1⟩;by_cases q:b=p.a
 ·subst q;cases ag (h1.symm.trans ho);exact e1
 ·exact k1 b o q (λo0 dx a1 a2=>by cases ag (h1.symm.trans a1);cases ag (h3.symm.trans a2);exact hb) ho
theorem R8{G:Prop}(h:MT k v o=some p)(g: ∀c fs,o=.inst c fs->p.1=.inst c (lC k v fs)->G):G:=aQ h λq e h=>g q.1 q.2 (Ji e) (congrArg (λU=>U.1) (ag h)).symm
theorem Oc(ho:bK C z o x)(hk:aU bx k=some (sl nm))(hv:az z.y v y)(w:Po b jU z (pe (kI o (MT k v) z.ρ z.H)) (λU=>Q) E):ax C.M C.A (adM x nm y) (λU=>Q) E z.s:=
 rQ ho w λix o p q e1 e2 e3 h ob w=>R8 h λc fs a1 a2=>by
  subst a1;rw [a2] at w;rw [e3];exact yl ob.o ob.a hk hv λh' t kk hO'=>w.Jp e1 e2 rfl (.inr ⟨rfl,rfl⟩) kk hO' t
end
theorem ym{z:Z C}{rel:Rl α Unit}{f:V->MP.Env->Hp->Out α}{Q:Unit->Shared->Prop}{K:Shared->Prop}(hr:bK C z r v)(w:Po b rel z ((share r cf z.ρ z.H).bind f) Q E)(h: ∀y (z':Z C),Po b rel z' (f y z'.ρ z'.H) Q E->bY b z z'->az z'.y y v->K z'.s):K z.s:=
 BV (cf:=cf) hr (w.first (b1:=true) (dN:=mR) (K:=λv' s=>v'=v->K s) (λU=>rfl) λy z' u w A hv e=>h y z' w A (e▸hv)) rfl
theorem Ew(hO:aV sc false o mo)(hk:aU bx k=some (sl x))(pos:Pos):eH b sc (.Attribute o x pos) (aO mo k):=λK z r v Q E hr w=>
 kas_attr (ym (K:=λs=>wpAny K.M K.A (eval o K.C.env) (λov s=>wpAny K.M K.A (adM ov x v) (λU=>Q) E s) E s) hr w λy z w U hy=>snd mT fH hO hy w λa z' u w U hy hu=>Kl<|Oc hu hk hy w)
end MP
end Mine.Lake
end
section
namespace Mine.Lake
namespace MP
open PySem PySem.W PyProof.Rows
inductive oK{C:Cx}(z:Z C):MP.Flow->fA->Prop
 |next:oK z .next .next
 |brk:oK z .brk .brk
 |cont:oK z .cont .cont
 |ret {r v}:bK C z r v->oK z (.ret r) (.ret v)
abbrev bz:Rl MP.Flow fA:=λU z a f=>oK z a f
abbrev R9(b:Bool)(sc:abL)(hb:Bool)(code:dq->Sem fA)(m:fF):Prop:=Ref b bz sc hb code m
abbrev jV(b:Bool)(sc:abL)(hb:Bool)(st:ec)(m:fF):Prop:=R9 b sc hb (exec st) m
abbrev gU(b:Bool)(sc:abL)(hb:Bool):List ec->List fF->Prop:=cM (jV b sc hb)
section
variable{b:Bool}{sc:abL}{hb:Bool}
abbrev yo(v:bp):Prop:= ∀t l env,ac3 v t l env=pure false
abbrev kU(t v:bp):Prop:= ∀env,acf [t] v env=pure none
theorem Po.next{z:Z C}{Q:fA->Shared->Prop}(w:Po b bz z (.ok .next z.ρ z.H) Q E):Q .next z.s:=w.ok' rfl z (bY.refl _ z) .next
theorem pP(ht:eH b sc t g)(hv:aV sc false v m)(h0:pO t)(h2:kU t v)(pos:Pos){k:Kx sc false}{z:Z k.C}{Q:fA->Shared->Prop}(w:Po b bz z (af g m k.cf z.ρ z.H) Q E)
  (hsw:ac3 v (some t) pos.line k.C.env=pure false):wpAny k.M k.A (exec (.Assign [t] v pos) k.C.env) Q E z.s:=by
 rw [adE];refine sd ?_;show wpAny _ _ (ac3 v (some t) pos.line k.C.env>>=_) _ _ _;rw [hsw];refine (pureO ?_);show wpAny _ _ (do let w <-eval v k.C.env;ac7 k.C.env w (<-acf [t] v k.C.env) ((ab9 [t] k.C.env).map (λU=>U.2))) _ _ _;refine wpAny_bind (one hv w (λa z' x w U hr=>?_) λU=>rfl);rw [h2,h0];refine (pureO ?_);show wpAny _ _ (assign t k.C.env x>>=λU=>(pure tx:Sem fA)) _ _ _;exact wpAny_bind (ht k z' a x _ E hr (w.first (dN:=jU) (K:=λU s=>wpAny k.M k.A (pure tx) Q E s) (λh=>h) λU z' U w U U=>wpAny_pure w.next))
theorem B0(ht:eH b sc t g)(hv:aV sc false v m)(h0:pO t)(h1:yo v)(h2:kU t v)(pos:Pos):jV b sc false (.Assign [t] v pos) (af g m):=λU U U U w=>pP ht hv h0 h2 pos w (h1 _ _ _)
theorem rS(h:aV sc hb e m)(pos:Pos):jV b sc hb (.Return (some e) pos) (ah m):=λk z Q E w=>
 wpAny_Return_some (one h w (λa z' x w U hr=>w.ok' rfl z' (bY.refl _ z') (.ret hr)) λU=>rfl)
theorem pQ(pos:Pos):jV b sc hb (.Return none pos) (ah bF):=
 λk z Q E w=>Kl<|wpAny_Return_none (w.ok' rfl z (bY.refl _ z) (.ret rfl))
theorem oK.done{z:Z C}{Q:fA->Shared->Prop}(r:oK z f x)(w:Po b bz z (.ok f z.ρ z.H) Q E):Q x z.s:=w.ok' rfl z (bY.refl _ z) r
theorem Jt(pos:Pos):jV b sc hb (.Continue pos) Dy:=λk z Q E w U U U U=>w.ok' rfl z (bY.refl _ z) .cont
theorem jq(h:gU b sc hb ss ms):R9 b sc hb (acr ss) (br ms):=by
 induction h with
 |nil=>exact λk z Q E w=>Kl<|acK w.next
 |cons h _ ih=>
  refine λk z Q E w=>wpAny_execs_cons (one h w λa z' f w U r=>?_);induction r with
  |next=>exact ih k z' Q E w
  |brk=>exact oK.brk.done w
  |cont=>exact oK.cont.done w
  |ret r=>exact (oK.ret r).done w
theorem Sa{mt:M Bool}(ht:kQ sc hb t mt)(ha:gU b sc hb a ma)(hc:gU b sc hb c mc)(pos:Pos):jV b sc hb (.If t a c pos) (b7 mt ma mc):=λk z Q E w=>
 wpAny_If (one ht w (λx z' y w U e=>by
  rcases e with _|_;induction x with
  |true=>exact jq ha k z' Q E w
  |false=>exact jq hc k z' Q E w) λU=>rfl)
theorem Ju(h:aV sc hb e m)(h1:yo e)(pos:Pos):jV b sc hb (.Expr e pos) (bJ m):=λk z Q E w=>by
 have hi:adJ k.C.env=false:=by unfold adJ;rw [k.fe.kind];rfl
 rw [exec_Expr k.C.env e pos hi (h1 none pos.line k.C.env)];exact sd (sq (one h.plain w (λa z' x w U U=>Kl<|wpAny_dropValue (w.guard λU w=>w.next)) λU=>rfl) λU U h=>h)
end
def yp(h h':Heap)(a:Addr):Ow->Prop
 | .ns=> ∀o,h.get? a=some o-> ∃sl,h'.get? a=some {o with slots:=sl}
 | .held o=>Lk h a o->Lk h' a o
 |_=>Hk h h' a
def Calm(y:Wd)(h h':Heap):Prop:= ∀a x,y.W a=some x->yp h h' a x
noncomputable def Ow.loose:Ow->Bool| .ns=>true| .held _=>true|_=>false
theorem Ow.Jv{w:Ow}(h:w.Hl=true):w.loose=false:=by rcases w with _|_<;>first|rfl|exact bI h
section
variable{y:Wd}{h h' h'':Heap}{a:Addr}{x:Ow}
theorem yp.of(k:Hk h h' a):yp h h' a x:=by
 induction x with
 |ns=>exact λo e=>⟨o.slots,k o e⟩
 |held o=>exact λw=>by induction w with|mk e f=>exact .mk (k _ e) f
 |_=>exact k
theorem Calm.hk(k:Calm y h h')(e:y.W a=some x)(n:x.loose=false):Hk h h' a:=by
 have w:=k a x e;rcases x with _|_<;>first|exact w|exact bI n.symm
theorem Calm.trans(k:Calm y h h')(k':Calm y h' h''):Calm y h h'':=λa x e=>by
 have w:=k a x e;have w':=k' a x e;induction x with
 |ns=>exact λo e=>(w o e).elim λsl e=>w' {o with slots:=sl} e
 |held o=>exact λe=>w' (w e)
 |_=>exact λo e=>w' o (w o e)
theorem Calm.keeps(k:Keeps h h'):Calm y h h':=λU U U=>.of λo e=>k _ o e
theorem Calm.at(f:y.W a=none)(k:eC a h h'):Calm y h h':=λb x e=>.of λo e'=>k b o (Wd.ne f e) e'
theorem Calm.slots{S:List Addr}(k:Heap.SlotsOnly S h h')(hS: ∀b∈S,y.W b=some .ns\/kL y.W b):Calm y h h':=λb x e=>by
 by_cases q:b∈S
 ·rcases hS b q with r|r
  ·cases ag (e.symm.trans r);exact k.2.2 b
  ·induction r with
   |mk r c=>cases ag (e.symm.trans r);exact λw=>by induction w with|mk w=>exact (k.2.2 b _ w).elim λsl w=>.mk w λn=>(n c).elim
 ·exact .of λo e=>(k.2.1 b q).trans e
end
section
variable{C:Cx}(z:Z C)
theorem Z.calm(k:Calm z.y z.s.heap h')(t:Nat): ∃I,bY true z ⟨z.y,z.ρ,z.H,{z.s with heap:=h',toks:=t},I⟩:=by
 have K:xq C z.y z.y z.ρ z.ρ z.H z.H z.s {z.s with heap:=h',toks:=t} (λa=> ∃x,z.y.W a=some x/\x.loose=true):=⟨Up.refl _,λa x e q=>⟨e,by
   cases n:x.loose with
   |true=>exact (q ⟨x,e,n⟩).elim
   |false=>exact k.hk e n⟩,λa x e=>by
   have w:=z.I.own a x e;have c:=k a x e;induction x with
   |ns=>exact .inr (w.elim λo w=>(c o w).elim λsl w=>⟨_,w⟩)
   |held o=>exact .inr (c w)
   |_=>exact .inl ⟨e,λ⟨x,q,n⟩=>by cases ag (e.symm.trans q);exact bI n⟩,λa x ⟨x',q,n⟩ e=>by cases ag (e.symm.trans q);rcases x with _|_<;>first|rfl|exact bI n,z.I.len,λx o e=>.inl ⟨e,rfl,λp hp a pl ⟨x',q,n⟩=>by
   obtain ⟨d,e⟩:=z.at e hp pl;cases ag (e.symm.trans q);exact bI n⟩,rfl,rfl⟩
 have vk: ∀{i f x},aY C.env z.y z.s.heap i f x->aY C.env z.y h' i f x:=λ{i f x} v=>by
  induction v with
  |loc n m=>
   obtain ⟨o,es,ep,e,r⟩:=m;exact .loc n ((k _ _ z.I.iK o e).elim λsl e=>⟨_,es,ep,e,r⟩)
  |qV n kd c w d g=>exact .qV n kd c w d (g.imp λo g=>⟨k.hk w (by
    rcases d with rfl|d
    ·rfl
    ·exact Ow.Jv d) o g.1,g.2⟩)
 refine ⟨z.I.upd K z.I.iK (λi=>(z.I.vars i).keep (Up.refl _) (λU U=>vk) rfl) rfl (z.I.loc.elim λo l=>(k _ _ z.I.iK o l.1).elim λsl e=>⟨_,e,l.2⟩) λU q=>q,Le.refl _,λU i x v=>v.imp λU v=>vk v⟩
theorem cK.Sb(x:cK y h k w v):Bx y h k w v:=by
 induction x with
 |mk a b c d e f g=>exact .mk a b c (by rw [vr,d];exact .at e) f g
theorem Od{vs:Array Value}(h:k<vs.size):vs[k]?=some (vs.getD k .none):=by simp [Array.getD,h]
inductive Zj(z:Z C):Prop
 |mk {e0 r L}:C.A.frames=some (e0::r)->e0.frame=C.env.frame->C.env.frame=some L->z.s.heap.FunFrames {} (e0::r)->(∀b∈(e0::r).filterMap (λU=>U.frame),z.y.W b=some .ns\/kL z.y.W b)->Zj z
theorem Z.Oe:Zj z:=by
 obtain ⟨e0,r,h1,h2,h3⟩:=z.I.frames;obtain ⟨L,hL,_⟩:=(h3 e0 bj).2;refine .mk h1 h2 (h2▸hL) ?_ λb hb=>?_
 ·clear h1 hL;generalize e0::r=l at h3;induction l with
  |nil=>trivial
  |cons e r ih=>
   obtain ⟨hk,L,hf,hl⟩:=h3 e bj;refine ⟨hk,⟨L,?_⟩,ih λe he=>h3 e (cb _ he)⟩;rcases hl with ⟨rfl,_⟩|hl
   ·exact z.I.loc.imp λo q=>⟨hf,rfl,q.1,zT q.2.2⟩
   ·induction hl with
    |mk a b c=>have w:=z.I.own _ _ a;induction w with|mk e=>exact ⟨_,hf,rfl,e,c⟩
 ·obtain ⟨e,he,hf⟩:=H5.mp hb;obtain ⟨_,L,hf',hl⟩:=h3 e he;cases ag (hf'.symm.trans hf);rcases hl with ⟨rfl,_⟩|hl
  ·exact .inl z.I.iK
  ·exact .inr hl
end
section
variable{C:Cx}{z:Z C}
noncomputable def Aj(head:Value)(L:Addr)(pl:List Value):Obj:={cls:=.type "traceback",dict:=none,data:=.fields ([head,.ref L,.none,aco L,.none]++(if pl.isEmpty then abh 6 rk else pl)).toArray}
theorem Ho.fields(x:Ho y k w o):Ho y k w (o.mapFields f):=by
 induction x with
 |mk a b c d e=>refine .mk ((Kj _ _).trans a) (Eq.trans ?_ b) c d e;unfold oP;split<;>rfl
theorem vR{vs:Array Value}(he:z.s.heap.get? e=some o)(hd:o.data=.fields vs)(h5:5<vs.size)(x:Ho z.y k w o)(hF:z.y.W e=none)(hL:C.env.frame=some L)
  {Q:Unit->Shared->Prop} 
  (hq: ∀z':Z C,bY true z z'->z'.y=z.y->z'.ρ=z.ρ->z'.H=z.H->cK z'.y z'.s.heap k w (.ref e)->Q () z'.s):
  ax C.M C.A (do setField (.ref e) 1 (<-EntryCells.newEntry head (<-Jn C.env) .none (aco L) .none (<-entryPlaceOf L hn))) Q E z.s:=by
 induction z.Oe with|mk f1 f2 f3 f4 f5=>
 refine bc ?_;rw [show Jn C.env=Jn _ by unfold Jn;rw [f2]];refine wpAny_frameOf_fun f1 f4 (f2.trans hL) λh₁ hs₁=>?_;have c1:Calm z.y z.s.heap h₁:=Calm.slots hs₁ f5;have Lx:h₁.get? e=some o:=(hs₁.2.1 e λhm=>by
  rcases f5 e hm with q|q
  ·exact bw (hF.symm.trans q)
  ·induction q with|mk q=>exact bw (hF.symm.trans q)).trans he
 refine bc (wpAny_entryPlaceOf λpl hpl=>?_);refine bc (ack ?_ (hpl.sizeOk5 _ _ _ _ _));have hT:h₁.objs.size≠e:=vl (ik Lx);have Ly:=cn (Aj head L pl) Lx;refine acB Ly hd (kS (by decide) h5) ?_;have hd₃:=qr hd (·.setIfInBounds 1 (dT h₁.objs.size));have Sd:=(pw (h₁.push (Aj head L pl)) (oP (·.setIfInBounds 1 (dT h₁.objs.size))) (Ts hT)).trans (da h₁ rfl);have c3:Calm z.y (h₁.push (Aj head L pl)) ((h₁.push (Aj head L pl)).update e (oP (·.setIfInBounds 1 (dT h₁.objs.size)))):=.at hF λb o hb hb'=>(pw _ _ (Ts hb)).trans hb';have iS:=z.calm ((c1.trans (.keeps (Keeps.push _ _))).trans c3) z.s.toks;have I:=iS.1;have A:=iS.2;refine hq ⟨z.y,z.ρ,z.H,_,I⟩ A rfl rfl rfl (.mk (ew (oP (·.setIfInBounds 1 (dT h₁.objs.size))) Ly (Fs hd₃)) hd₃ (by simpa using h5) (by have h1:1<vs.size:=kS (by decide) h5;simp [h1]) (.mk Sd rfl (by simp) (z.no ?_) hT) x.fields hF);have hn:=aN h₁;cases q:z.s.heap.get? h₁.objs.size with
 |none=>rfl
 |some o=>exact absurd (ik q) (hs₁.1▸vy _)
theorem nB(t:Addr):(dT t != rk)=true:=rfl
theorem Bv.put(x:Bv y h e t)(v:Value)(i:Nat): ∃o ts,h.get? t=some o/\o.data=.fields ts/\4<ts.size/\Calm y h (h.update t (oP (λU=>U.setIfInBounds i v)))/\Bv y (h.update t (oP (λU=>U.setIfInBounds i v))) e t/\ ∀o,h.get? e=some o->(h.update t (oP (λU=>U.setIfInBounds i v))).get? e=some o:=by
 induction x with
 |mk t1 t2 t3 t4 t5=>
  have hd:=qr t2 (λU=>U.setIfInBounds i v);exact ⟨_,_,t1,t2,t3,.at t4 λb o hb hb'=>(pw _ _ (Ts hb)).trans hb',.mk (ew _ t1 (Fs hd)) hd (by simpa using t3) t4 t5,λo h=>(pw _ _ t5).trans h⟩
theorem oM(F:Bx z.y z.s.heap k w v){Q:Unit->Shared->Prop}
  (hq: ∀z':Z C,bY true z z'->z'.y=z.y->z'.ρ=z.ρ->z'.H=z.H->cK z'.y z'.s.heap k w v->Q () z'.s):ax C.M C.A (ace v C.env) Q E z.s:=by
 refine ae λaA=>?_;induction z.Oe with|mk f1 f2 hL f4 f5=>
 induction F with|@mk e o vs h2 h5 h6 h7 x hF=>
 refine aA ?_;have v1:=Od (k:=1) (kS (aw rfl) h6);unfold ace;rw [hL];refine (dj h2 h5 v1 ?_);revert v1;generalize vs.getD 1 .none=tb at h7 ⊢;intro v1;induction h7 with
 |none=>rw [if_neg (by decide)];exact vR h2 h5 h6 x hF hL hq
 |«at» t=>
  rw [if_pos (nB _)];refine ae λb8=>?_;obtain ⟨ot,ts,t1,t2,t3,c,t',te⟩:=t.put .none 3;refine b8 ?_;refine (dj t1 t2 (Od (k:=3) (Kk t3)) ?_);cases q:(ts.getD 3 .none==aco _) with
  |true=>rw [if_pos rfl];exact cp (hq z (bY.refl _ z) rfl rfl rfl (.mk h2 h5 h6 v1 t x hF))
  |false=>
   rw [if_neg (by decide)];refine bc (acB t1 t2 (Kk t3) ?_);obtain ⟨I,A⟩:=z.calm c z.s.toks;exact vR (z:=⟨_,_,_,_,I⟩) (te _ h2) h5 h6 x hF hL λz' A' e1 e2 e3 F=>hq z' (A.trans A') e1 e2 e3 F
theorem fT(F:cK z.y z.s.heap k w v){Q:Unit->Shared->Prop}
  (hq: ∀z':Z C,bY true z z'->z'.y=z.y->z'.ρ=z.ρ->z'.H=z.H->cK z'.y z'.s.heap k w v->Q () z'.s):ax C.M C.A (adD v fr) Q E z.s:=by
 refine ae λaA=>?_;induction F with|mk h2 h5 h6 hv t x hF=>
 obtain ⟨ot,ts,t1,t2,t3,c,t',te⟩:=t.put (fr.elim .none λf=>aco f) 3;refine aA ?_;refine (dj h2 h5 hv ?_);rw [if_pos (nB _)];obtain ⟨I,A⟩:=z.calm c z.s.toks;exact acB t1 t2 (Kk t3) (hq ⟨_,_,_,_,I⟩ A rfl rfl rfl (.mk (te _ h2) h5 h6 hv t' x hF))
theorem yq(F:Bx z.y z.s.heap k w v){Q:Unit->Shared->Prop}
  (hq: ∀z':Z C,bY true z z'->z'.y=z.y->z'.ρ=z.ρ->z'.H=z.H->cK z'.y z'.s.heap k w v->Q () z'.s):ax C.M C.A (adN C.env v) Q E z.s:=by
 exact bc (oM F λz1 A e1 e2 e3 F=>fT F λz2 A' d1 d2 d3 F=>hq z2 (A.trans A') (d1.trans e1) (d2.trans e2) (d3.trans e3) F)
theorem nC(F:cK z.y z.s.heap k w v)
  (hq: ∀z':Z C,bY true z z'->z'.y=z.y->z'.ρ=z.ρ->z'.H=z.H->cK z'.y z'.s.heap k w v->E v z'.s):PySem.cameBackBy C.M C.A C.env E v z.s:=by
 have F0:=F;induction F with|mk h2 h5 h6 hv t x hF=>
 refine (dj h2 h5 hv ?_);rw [if_neg (by simp)];exact fT F0 hq
theorem Jw(F:Bx z.y z.s.heap k w v)(hq: ∀z':Z C,bY true z z'->z'.y=z.y->z'.ρ=z.ρ->z'.H=z.H->cK z'.y z'.s.heap k w v->E v z'.s):notedBy C.M C.A C.env (λe s'=>cameBackBy C.M C.A C.env E e s') v z.s:=
 Kl<|oM (Q:=λU s=>cameBackBy C.M C.A C.env E v s) F λz1 A e1 e2 e3 F=>Kl<|nC (E:=E) F λz2 A' d1 d2 d3 F=>hq z2 (A.trans A') (d1.trans e1) (d2.trans e2) (d3.trans e3) F
end
end MP
end Mine.Lake
end
section
namespace Mine.Lake
namespace MP
open PySem PySem.W PyProof.Rows
section
variable{α β γ δ:Type}{C:Cx}{b:Bool}{rel:Rl α γ}{z z':Z C}{Q:γ->Shared->Prop}{E:Value->Shared->Prop}
theorem Po.pass(w:Po b rel z out Q E):Po b rel z out Q (notedBy C.M C.A C.env λe s'=>cameBackBy C.M C.A C.env E e s'):=
 ⟨w.fits,w.ok,λk u z' v e l F=>Jw F λz2 A U e2 e3 F=>w.exc k u z2 v (by rw [e2,e3];exact e) (l.trans A.toLe) F.Sb⟩
theorem bind_assoc{x:Out α}{f:β->MP.Env->Hp->Out δ}:(x.bind g).bind f=x.bind λa ρ H=>(g a ρ H).bind f:=by
 induction x with
 |ask n k vs H f ih=>exact congrArg (Out.ask n k vs H) (funext ih)
 |_=>rfl
theorem Of:lJ bz:=λC z y I f x l r=>by
 induction r with
 |next=>exact .next
 |brk=>exact .brk
 |cont=>exact .cont
 |ret r=>exact .ret (fH C z y I _ _ l r)
theorem Po.held{rel:Rl β γ}{K:δ->Shared->Prop}(w:Po b rel z (m.bind f) Q E)(ls:lJ dN)(hF: ∀b∈fp,z.y.W b=none)(hl: ∀b∈fp, ∃o,z.s.heap.get? b=some o/\o.cls≠ .type "frame")
  (hK: ∀a (z':Z C) x,Po b rel z' (f a z'.ρ z'.H) Q E->bY b z z'->dN C z' a x->(∀b∈fp,z'.y.W b=none)->(∀b∈fp,Hk z.s.heap z'.s.heap b)->K x z'.s) {P:Prop} (hP: ∀I',Le z.y (z.y.hold z.s.heap fp)->Po b dN (z.re (z.y.hold z.s.heap fp) I') m K E->P):P:=by
 obtain ⟨I',A1⟩:=z.hold hF;refine hP I' A1.toLe ⟨w.fits.left,λa z' x e A r=>?_,λc u z' v e l=>w.exc c u z' v (by rw [show m=_ from e];rfl) (A1.toLe.trans l)⟩;obtain ⟨I2,A2,l,k⟩:=z.drop hF hl A;exact hK a (z'.re _ I2) x (Po.step (z':=z'.re _ I2) w e A2) A2 (ls _ z' _ _ _ _ l r) (λb hb=>Wd.fh hb) k
end
theorem oK.turn{z:Z C}{Q:fA->Shared->Prop}{G:Shared->Prop}(r:oK z f x)(w:Po b bz z (MP.turn f o z.ρ z.H) Q E)(h:Po b bz z o Q E->G z.s):match (generalizing:=false) x with
  | .next| .cont=>G z.s
  | .brk=>Q .next z.s
  | .ret v=>Q (.ret v) z.s:=by
 induction r with
 |next=>exact h w
 |cont=>exact h w
 |brk=>exact w.next
 |ret r=>exact (oK.ret r).done w
section
variable{b:Bool}{sc:abL}
inductive Xe(b:Bool)(k:Kx sc false)(mt:M Bool)(mb:fF)(Q:fA->Shared->Prop)(E:Value->Shared->Prop)(n:Nat):Shared->Prop
 |mk {z:Z k.C}:Po b bz z (whileLoop n mt mb k.cf z.ρ z.H) Q E->Xe b k mt mb Q E n z.s
theorem Po.two{z:Z C}{Q:fA->Shared->Prop}{P1 P2:Prop}(w:Po b bz z (_root_.cond a o p) Q E)(e:a=x)(h:Po b bz z o Q E->P1)(h':Po b bz z p Q E->P2):if x=true then P1 else P2:=by
 subst e;rcases a with _|_
 ·exact h' w
 ·exact h w
theorem Ex{bd:List ec}{mt:M Bool}(ht:kQ sc false t mt)(hb:gU b sc false bd mb)(pos:Pos):jV b sc false (.While t bd [] pos) (ic mt mb):=λk z Q E w=>
 wpAny_While (codeAny_whileLoop (Xe b k mt (br mb) Q E) (λn s h=>by
  induction h with|@mk z w=>
  induction n with
  |zero=>exact w.fits.elim
  |succ n=>
   exact ht k z _ _ (Po.first w (λU=>rfl) λx z' y w U e=>w.two e (λw=>jq hb k z' _ _ (Po.first w (λh=>h) λf z' U w U r=>r.turn (G:=λs=> ∃m,m<n+1/\Xe b k mt (br mb) Q E m s) w λw=>⟨n,km _,.mk w⟩).pass) λw=>Kl<|acK w.next).pass) cJ (.mk w))
end
abbrev IsTup(t:bp):Prop:= ∃es k p,t=.Tuple es k p
abbrev pS(e:bp):Prop:= ∀env x,acR e env x=pure x
structure More(y y':Wd)(h h':Heap):Prop where
 up: ∀a x,y.W a=some x->y'.W a=some x/\Hk h h' a
 own: ∀a x,y'.W a=some x->y.W a=some x\/(h.get? a=none/\vz h' a x)
 φ:y'.φ=y.φ
theorem More.le(m:More y y' h h'):Le y y':=⟨⟨λa o e=>congrArg bR (m.up _ _ (aJ e)).1,λi p e=>m.φ▸e⟩,λa o e=>(m.up _ _ e).1⟩
theorem Z.grow(z:Z C)(m:More z.y y' z.s.heap h')(t:Nat): ∃I',bY true z ⟨y',z.ρ,z.H,{z.s with heap:=h',toks:=t},I'⟩:=
 z.more m.le m.up (λa x e=>(m.own a x e).imp id λq=>q.2) m.φ
structure cY(S:St)(A:Around)(y0:Wd)(tp:Bool)(it:Addr)(fp:List Addr)(src:Src)(St:Nat->Heap->Prop)(Mid:Nat->Value->Heap->Prop):Prop where
 live: ∀k h,St k h-> ∀b∈fp, ∃o,h.get? b=some o/\o.cls≠ .type "frame"
 frame: ∀k h h',St (k+1) h->(∀b∈fp,Hk h h' b)->St (k+1) h'
 keep: ∀k h h',St k h->Keeps h h'->St k h'
 item: ∀y ρ H s (k:Nat) (v:V) (Q:Option Value->Shared->Prop) (E:Value->Shared->Prop),InvH S y ρ H s->Up y0 y->(∀b∈fp,y.W b=none)->St k s.heap->gK src k H=some (some v)->
  (∀x y' h' tk,More y y' s.heap h'->az y' v x->Mid k x h'->(∀b,b∉fp->Hk s.heap h' b)->Q (some x) {s with heap:=h',toks:=tk})->wpAny S.M A (acT (.ref it)) Q E s
 go: ∀(t:bp) (k:Nat) (x:Value) (s:Shared) (Q:Unit->Shared->Prop) (E:Value->Shared->Prop),(tp=true->IsTup t)->Mid k x s.heap->
  (∀h',St (k+1) h'->(∀b,b∉fp->Hk s.heap h' b)->Q () {s with heap:=h'})->wpAny S.M A (acu t (.ref it) x) Q E s
 done: ∀y ρ H s (k:Nat) (Q:Option Value->Shared->Prop) (E:Value->Shared->Prop),InvH S y ρ H s->Up y0 y->St k s.heap->gK src k H=some none->
  (∀h' tk,(∀b,b∉fp->Hk s.heap h' b)->Q none {s with heap:=h',toks:=tk})->wpAny S.M A (acT (.ref it)) Q E s
 self: ∀(k:Nat) (s:Shared) (Q:Value->Shared->Prop) (E:Value->Shared->Prop),St k s.heap->Q (.ref it) s->wpAny S.M A (adq (.ref it)) Q E s
def kW(tp:Bool):Rl Src Value:=λC z src x=> ∀(Q:Value->Shared->Prop) (E:Value->Shared->Prop),
 (∀it fp St Mid h',cY C.toSt C.A z.y tp it fp src St Mid->St 0 h'->Keeps z.s.heap h'->(∀b∈fp,z.y.W b=none)->Q (.ref it) {z.s with heap:=h'})->wpAny C.M C.A (adq x) Q E z.s
abbrev gG(sc:abL)(tp:Bool)(e:bp)(m:M Src):Prop:=Ref true (kW tp) sc false (eval e) m
section
variable{C:Cx}{z:Z C}{y0:Wd}{tp:Bool}{it:Addr}{fp:List Addr}{src:Src}{St:Nat->Heap->Prop}{Mid:Nat->Value->Heap->Prop}
theorem Ak(hF: ∀b∈fp,y.W b=none)(k: ∀b,b∉fp->Hk h h' b):Calm y h h':=λa x e=>.of (k a λq=>by rw [hF a q] at e;exact bw (e))
section
variable(W:cY C.toSt C.A y0 tp it fp src St Mid)(u:Up y0 z.y)(hF: ∀b∈fp,z.y.W b=none){k:Nat}(hst:St k z.s.heap){Q:Option Value->Shared->Prop}{E:Value->Shared->Prop}
include W u hF hst
theorem cY.next(hv:gK src k z.H=some (some v))(ht:tp=true->IsTup t)
  (hQ: ∀x s',wpAny C.M C.A (acu t (.ref it) x) (λU s''=> ∃y I,bY true z ⟨y,z.ρ,z.H,s'',I⟩/\az y v x/\St (k+1) s''.heap/\ ∀b∈fp,y.W b=none) (λU U=>False) s'->Q (some x) s'):
  wpAny C.M C.A (acT (.ref it)) Q E z.s:=by
 refine W.item z.y z.ρ z.H z.s k v Q E z.I.toInvH u hF hst hv λx y' h' tk m hx hm hk=>hQ x _ ?_;have iS:=z.grow m tk;have I1:=iS.1;have A1:=iS.2;have Zk: ∀b∈fp,y'.W b=none:=λb hb=>by
  cases q:y'.W b with
  |none=>rfl
  |some x=>
   rcases m.own b x q with q|q
   ·exact bw ((hF b hb).symm.trans q)
   ·obtain ⟨o',e,_⟩:=W.live k _ hst b hb;exact bw (q.1.symm.trans e)
 refine W.go t k x _ _ _ ht hm λh'' Xf hk'=>?_;obtain ⟨I2,A2⟩:=Z.calm ⟨y',z.ρ,z.H,_,I1⟩ (Ak Zk hk') tk;exact ⟨y',I2,A1.trans A2,hx,Xf,Zk⟩
theorem cY.end(hv:gK src k z.H=some none)(hQ: ∀s' I,bY true z ⟨z.y,z.ρ,z.H,s',I⟩->Q none s'):wpAny C.M C.A (acT (.ref it)) Q E z.s:=
 W.done z.y z.ρ z.H z.s k Q E z.I.toInvH u hst hv λh' tk hk=>by
  obtain ⟨I2,A2⟩:=z.calm (Ak hF hk) tk;exact hQ _ I2 A2
end
end
section
variable{b:Bool}{sc:abL}
theorem Po.src{z:Z C}{rel:Rl α γ}{src:Src}{o:Out α}{f:V->Out α}{Q:γ->Shared->Prop}{G:Prop}(w:Po b rel z (sY src j z.H o f) Q E)(h1:gK src j z.H=some none->Po b rel z o Q E->G)(h2: ∀v,gK src j z.H=some (some v)->Po b rel z (f v) Q E->G):G:=
 w.opt λov e w=>by
  induction ov with
  |none=>exact h1 e w
  |some v=>exact h2 v e w
inductive Og(b:Bool)(k:Kx sc false)(y0:Wd)(g:MP.T)(src:Src)(mb:fF)(fp:List Addr)(St:Nat->Heap->Prop)(Q:fA->Shared->Prop)(E:Value->Shared->Prop)(n:Nat):Shared->Prop
 |mk {j} {z:Z k.C}:Up y0 z.y->Po b bz z (forLoop n j g src mb k.cf z.ρ z.H) Q E->St j z.s.heap->(∀b∈fp,z.y.W b=none)->Og b k y0 g src mb fp St Q E n z.s
theorem Oh{bd:List ec}{g:MP.T}(ht:eH b sc t g)(hm:gG sc tp e m)(hb:gU b sc false bd mb)(htp:tp=true->IsTup t)(Ey:pS e)(pos:Pos):
  jV b sc false (.For t e bd [] pos) (dY g m mb):=λk z Q E w=>by
 refine wpAny_For (one hm w (λsrc z0 x w A hr=>hr _ _ λit fp St Mid h' W hst hk hF=>?_) λU=>rfl) (Ey _);have iS:=z0.iR hk z0.s.toks;have I1:=iS.1;have A1:=iS.2;refine codeAny_forLoop_any (Og b k z0.y g src (br mb) fp St Q E) (λn s h=>?_) cJ (.mk (z:=⟨_,_,_,_,I1⟩) A1.toUp (w.mH A1.lax) hst hF);induction h with|@mk j z u w hst hF=>
 induction n with
 |zero=>exact w.fits.elim
 |succ n=>
  refine Po.src w (λhv w=>W.end u hF hst hv λs I A=>Kl<|acK (Po.next (z:=⟨_,_,_,_,I⟩) (w.mH A.lax))) λv hv w=>W.next u hF hst hv htp λx s2 hgo=>wpAny_mono hgo (λU s3 hx=>?_) λU U h=>h.elim;obtain ⟨y,I,A,hx,hst,hF⟩:=hx;exact Po.held (z:=⟨y,z.ρ,z.H,s3,I⟩) (dN:=bz) (w.mH A.lax) Of hF (W.live _ _ hst) (λf z' fl w A2 r Xg hk=>r.turn (G:=λs=> ∃m,m<n+1/\Og b k z0.y g src (br mb) fp St Q E m s) w λw=>⟨n,km _,.mk ((u.trans A.toUp).trans A2.toUp) w (W.frame _ _ _ hst hk) Xg⟩) λI' l w=>ht k (Z.re ⟨y,z.ρ,z.H,s3,I⟩ _ I') (.val v) x _ _ (hx.mono l.toUp) (Po.first w (λh=>h) λU z3 U w U U=>jq hb k z3 _ _ w.pass).pass
end
end MP
end Mine.Lake
end
section
namespace Mine.Lake
namespace MP
open PySem PySem.W PyProof.Rows
noncomputable def Wd.gV(y:Wd)(h:Heap):Wd:=⟨λa=>(y.W a).bind λx=>cond x.mine ((h.get? a).map .held) (some x),y.φ⟩
noncomputable def Wd.both(y y':Wd):Wd:=⟨λa=>match y.W a with|some x=>cond x.mine (some x) (y'.W a)|none=>y'.W a,λx=>match x with| .own i=>y.φ (.own i)| .obj i=>y'.φ (.obj i)⟩
section
variable{y y':Wd}{h:Heap}{a:Addr}{x:Ow}
theorem pT(e:y.W a=some x)(m:x.mine=true):(y.gV h).W a=(h.get? a).map .held:=by
 show (y.W a).bind _=_;rw [e];show cond x.mine _ _=_;rw [m];rfl
theorem gW(e:y.W a=some x)(m:x.mine=false):(y.gV h).W a=some x:=by
 show (y.W a).bind _=_;rw [e];show cond x.mine _ _=_;rw [m];rfl
theorem vS(e:(y.gV h).W a=some x):(y.W a=some x/\x.mine=false)\/ ∃o,h.get? a=some o/\x=.held o/\ ∃x',y.W a=some x'/\x'.mine=true:=by
 cases q:y.W a with
 |none=>change (y.W a).bind _=_ at e;rw [q] at e;exact bw (e)
 |some x'=>
  cases m:x'.mine with
  |true=>rw [pT q m] at e;obtain ⟨o,e1,e2⟩:=eR.mp e;exact .inr ⟨o,e1,e2.symm,x',rfl,m⟩
  |false=>rw [gW q m] at e;cases ag (e);exact .inl ⟨rfl,m⟩
theorem l6(e:y.W a=some x)(m:x.mine=true):(y.both y').W a=some x:=by
 show (match y.W a with|some x=>cond x.mine (some x) (y'.W a)|none=>y'.W a)=_;rw [e];show cond x.mine _ _=_;rw [m];rfl
theorem oN:(y.both y').W a=y'.W a\/ ∃x,y.W a=some x/\x.mine=true/\(y.both y').W a=some x:=by
 cases q:y.W a with
 |none=>refine .inl ?_;show (match y.W a with|some x=>cond x.mine (some x) (y'.W a)|none=>y'.W a)=_;rw [q]
 |some x=>
  cases m:x.mine with
  |true=>exact .inr ⟨x,rfl,m,l6 q m⟩
  |false=>refine .inl ?_;show (match y.W a with|some x=>cond x.mine (some x) (y'.W a)|none=>y'.W a)=_;rw [q];show cond x.mine _ _=_;rw [m];rfl
theorem az.fY:Up y (y.gV h):=⟨λa o e=>congrArg bR (gW (aJ e) rfl),λU U e=>e⟩
end
theorem Bw.to(x:Bw y h e v)(n: ∀a,y.W a=abE->y'.W a=abE):Bw y' h e v:=by
 induction x with
 |none=>exact .none
 |«at» t=>induction t with|mk a b c d e=>exact .at (.mk a b c (n _ d) e)
theorem Ho.to(x:Ho y k w o)(u:Up y y'):Ho y' k w o:=by induction x with|mk a b c d e=>exact .mk a b (c.mono u.j) d (e.mono u)
theorem Bx.to(x:Bx y h k w v)(u:Up y y')(n: ∀a,y.W a=none->y'.W a=none):Bx y' h k w v:=by
 induction x with|mk a b c d e f=>exact .mk a b c (d.to n) (e.to u) (n _ f)
section
variable{C:Cx}(z:Z C)
theorem Z.aside:InvH C.toSt (z.y.gV z.s.heap) [] z.H z.s/\qY (z.y.gV z.s.heap):=by
 have K:xq C z.y (z.y.gV z.s.heap) z.ρ [] z.H z.H z.s z.s (λa=> ∃x,z.y.W a=some x/\x.mine=true):=⟨az.fY,λa x e q=>⟨gW e (by
   cases m:x.mine with
   |true=>exact (q ⟨x,e,m⟩).elim
   |false=>rfl),λU e=>e⟩,λa x e=>(vS e).imp (λq=>⟨q.1,λ⟨x',e',m⟩=>by cases ag (q.1.symm.trans e');exact bI (q.2.symm.trans m)⟩) λ⟨o,e1,q,_⟩=>(by subst q;exact .mk e1 λU=>rfl),λa x ⟨x',e',m⟩ e=>by cases e'.symm.trans e;rcases x with _|_<;>first|rfl|exact bI m,z.I.len,λx o e=>by
   induction x with
   |own i=>rw [dg,bh] at e;exact bw e
   |obj i=>exact .inl ⟨e,rfl,λp hp a pl ⟨x',e',m⟩=>by obtain ⟨d,h⟩:=z.at (ix:=.obj i) e hp pl;cases ag (h.symm.trans e');cases m⟩,rfl,rfl⟩
 exact ⟨z.I.toInvH.upd K,λa x e=>by
  rcases vS e with ⟨_,m⟩|⟨o,_,rfl,_⟩
  ·exact m
  ·rfl⟩
theorem Z.back{z':Zh C.toSt}(l:Le (z.y.gV z.s.heap) z'.y): ∃I,bY true z ⟨z.y.both z'.y,z.ρ,z'.H,z'.s,I⟩/\Up z'.y (z.y.both z'.y)/\ ∀a,z'.y.W a=none->(z.y.both z'.y).W a=none:=by
 have Lz: ∀{a x o},z.y.W a=some x->x.mine=true->z.s.heap.get? a=some o->z'.y.W a=some (.held o)/\Lk z'.s.heap a o:=λe m e1=>by
  have w:=l.h _ _ ((pT e m).trans (by rw [e1];rfl));exact ⟨w,z'.I.own _ _ w⟩
 have has: ∀{a x},z.y.W a=some x->x.mine=true-> ∃o,z.s.heap.get? a=some o:=λ{a x} e m=>by
  have w:=z.I.own _ _ e;induction x with
  |kept=>exact bI m
  |held=>exact bI m
  |_=>exact w
 have un: ∀{a x},z'.y.W a=some x->x.WW=false->(z.y.both z'.y).W a=some x:=λ{a x} e n=>by
  rcases oN (y:=z.y) (y':=z'.y) (a:=a) with q|⟨x',e',m,_⟩
  ·exact q.trans e
  ·obtain ⟨o,e1⟩:=has e' m;cases ag (e.symm.trans (Lz e' m e1).1);cases n
 have u:Up z'.y (z.y.both z'.y):=⟨λa o e=>congrArg bR (un (aJ e) rfl),λU U e=>e⟩;have u0:Up z.y (z.y.both z'.y):=az.fY.trans (l.toUp.trans u);have none: ∀a,z'.y.W a=none->(z.y.both z'.y).W a=none:=λa e=>by
  rcases oN (y:=z.y) (y':=z'.y) (a:=a) with q|⟨x',e',m,_⟩
  ·exact q.trans e
  ·obtain ⟨o,e1⟩:=has e' m;exact bw (e.symm.trans (Lz e' m e1).1)
 have old: ∀{a x},z.y.W a=some x->x.mine=false->x.WW=true\/x.Hl=true->(z.y.both z'.y).W a=some x/\(x.Hl=true->Hk z.s.heap z'.s.heap a):=λ{a x} e m k=>by
  have w:=gW (h:=z.s.heap) e m;rcases oN (y:=z.y) (y':=z'.y) (a:=a) with q|⟨x',e',m',_⟩
  ·induction x with
   |held o=>exact ⟨q.trans (l.h _ _ w),λk=>nomatch k⟩
   |kept o=>
    have j:=aJ (l.j _ _ (congrArg bR w));exact ⟨q.trans j,λU o' e'=>by cases ag (e'.symm.trans (z.I.own _ _ e));exact z'.I.own _ _ j⟩
   |_=>rcases k with k|k<;>exact bI k
  ·cases ag (e.symm.trans e');cases m.symm.trans m'
 have vk: ∀{i f x},aY C.env z.y z.s.heap i f x->aY C.env (z.y.both z'.y) z'.s.heap i f x:=λ{i f x} v=>by
  cases v with
  |loc n m=>
   obtain ⟨o,es,ep,e,r⟩:=m;have w:=(Lz z.I.iK rfl e).2;induction w with|mk w=>exact .loc n ⟨_,es,ep,w,r⟩
  |qV n kd c w d g=>
   obtain ⟨o,e,r⟩:=g;rcases d with rfl|d
   ·have s:=(Lz w rfl e).2;induction s with|mk s=>exact .qV n kd c (l6 w rfl) (.inl rfl) ⟨_,s,r⟩
   ·have q:=old w (by rename_i w';rcases w' with _|_<;>first|rfl|exact bI d) (.inr d);exact .qV n kd c q.1 (.inr d) ⟨_,q.2 d _ e,r⟩
 have I:Inv C (z.y.both z'.y) z.ρ z'.H z'.s:=by
  refine {own:=λa x e=>?_,len:=z'.I.len,obs:=λx o e=>?_,base:=λa o e=>u.j _ _ (z'.I.base a o e),tabs:=λq hq=>?_,gens:=z'.I.gens,os:=z'.I.os,iK:=l6 z.I.iK rfl,vars:=λi=>(z.I.vars i).keep u0 (λU U=>vk) rfl,rl:=z.I.rl,loc:=?_,frames:=?_}
  ·rcases oN (y:=z.y) (y':=z'.y) (a:=a) with q|⟨x',e',m,q⟩
   ·exact z'.I.own a x (q.symm.trans e)
   ·cases ag (q.symm.trans e);obtain ⟨o,e1⟩:=has e' m;have w:=(Lz e' m e1).2;cases x with
    |kept=>exact bI m
    |held=>cases m
    |_=>cases w with|mk w=>exact ⟨_,w⟩
  ·cases x with
   |obj i=>
    obtain ⟨p,w⟩:=z'.I.obs (.obj i) o e;exact ⟨p,w.f,un w.a rfl,λd=>un (w.d d) rfl,w.o.keep u λU U U U e=>e⟩
   |own i=>
    obtain ⟨p,w⟩:=z.I.obs (.own i) o e;refine ⟨p,w.f,l6 w.a rfl,λd=>l6 (w.d d) rfl,w.o.keep u0 λa ob pl n e=>?_⟩;rcases pl with rfl|⟨d,rfl⟩
    ·exact (Lz w.a rfl e).2.exact n
    ·exact (Lz (w.d d) rfl e).2.exact n
  ·have t:=z'.I.tabs q hq;cases id t with
   |mk a=>exact t.keep u (λU e=>e) (λU e=>e) (un a rfl)
  ·exact z.I.loc.elim λo q=>by
    have w:=(Lz z.I.iK rfl q.1).2;cases w with|mk w=>exact ⟨_,w,q.2⟩
  ·exact z.I.frames.imp λU x=>x.imp λU x=>⟨x.1,x.2.1,λe he=>⟨(x.2.2 e he).1,(x.2.2 e he).2.imp λU x=>⟨x.1,x.2.imp id λq=>by cases q with|mk a b c=>exact .mk (old a rfl (.inl rfl)).1 b c⟩⟩⟩
 exact ⟨I,⟨⟨u0,λa o e=>(old e rfl (.inl rfl)).1⟩,λU i x v=>v.imp λU v=>vk v⟩,u,none⟩
theorem Z.calls: ∃r,C.A.frames=some r/\ ∀e∈r,e.scope.kind≠ .module/\ ∃L,e.frame=some L/\kL (z.y.gV z.s.heap).W L:=by
 refine ae λaA=>?_;obtain ⟨e0,r,h1,_,h3⟩:=z.I.frames;refine aA ?_;refine ⟨_,h1,λe he=>⟨(h3 e he).1,(h3 e he).2.imp λL q=>⟨q.1,q.2.elim (λq=>?_) λq=>?_⟩⟩⟩
 ·obtain ⟨o,e1,e2,e3⟩:=z.I.loc;exact q.1▸ .mk ((pT z.I.iK rfl).trans (by rw [e1];rfl)) (e2 (q.1▸q.2)) (zT e3)
 ·induction q with|mk a b c=>exact .mk (gW a rfl) b c
end
theorem Callee.mono(u:Up y y'){vs:List V}(c:Callee y k vs x xs):Callee y' k vs x xs:=
 c.imp (λc=>⟨c.1,c.2.1,c.2.2.mono u⟩) λc=>c.imp λU c=>c.imp λU c=>⟨c.1,c.2.1.mono u,c.2.2.mono u⟩
theorem Jx(h:Fits A (gr r ρ)):Told r:=by rcases r with _|_<;>first|trivial|exact h.elim
theorem pU{K:Kx sc hb}{z:Z K.C}(hh:K.C.A.handled=none){vs:List V}(hc:Callee z.y k vs x xs)(w:Po b bK z (gr (K.cf k vs z.H) z.ρ) Q E):
  wpAny K.M K.A (call x xs) Q E z.s:=by
 have I:=z.aside.1;have bare:=z.aside.2;refine wpAny_runValue (K.hcf.ok K.A ⟨_,_,_,I⟩ ⟨bare,hh,K.depth,K.units,z.calls⟩ k vs x xs _ (hc.mono az.fY) ⟨Jx w.fits,λr z' v e l b' g=>?_,λc u z' v e l b' F=>?_⟩)
 ·obtain ⟨I',A,u,n⟩:=z.back l;refine w.ok' (a:=r) (by rw [show K.cf k vs z.H=_ from e];rfl) _ A.lax ?_;induction r with
  |val y=>exact az.mono u y g
  |own o=>exact g.imp λp g=>⟨g.1,g.2.keep u λa q=>⟨n a (g.2.n a q),λU e=>e⟩⟩
  |slot i=>exact g.elim
 ·obtain ⟨I',A,u',n⟩:=z.back l;exact w.exc c u ⟨_,_,_,_,I'⟩ v (by rw [show K.cf k vs z.H=_ from e];rfl) A.toLe (F.to u' n)
end MP
end Mine.Lake
end
section
namespace Mine.Lake
namespace MP
open PySem PySem.W PyProof.Rows
section
variable{prog:Program}{w:abR}{A:Around}{E:Value->Shared->Prop}{s:Shared}{pos:Pos}{env:dq}{es:List bp}
theorem jr(pos:Pos)(x:Sem Value)(r:List (Bool×Sem Value)):ab1 pos ((false,x)::r)=(false,x)::ab1 pos r:=rfl
theorem plain_all(h: ∀e∈es,Plain e):(ab1 pos (abU es env)).all (λx=> !x.1)=true/\(ab1 pos (abU es env)).any (λU=>U.1)=false:=by
 induction es with
 |nil=>exact ⟨rfl,rfl⟩
 |cons e es ih=>
  (rewrite [h e bj,jr];try with_reducible rfl)
  have r:=ih λe he=>h e (cb _ he);exact ⟨(congrArg (λU=>true&&U) r.1:_),(congrArg (λU=>false||U) r.2:_)⟩
theorem l7{R:Args->Shared->Prop}(hp: ∀e∈es,Plain e)
  (h:wpAny (abJ prog w) A (acd (ab1 pos (abU es env))) (λvs s₁=>R ⟨vs,[]⟩ s₁) E s):wpAny (abJ prog w) A (ado f true (ab1 pos (abU es env)) []) R E s:=by
 induction es with
 |nil=>
  show wpAny _ A (acd (ab1 pos (abU [] env))>>=_) R E s;exact wpAny_bind (wpAny_mono h (λvs s' h'=>(pureO (wpAny_holding ((pureO ((pureO (wpAny_pure h')))))))) λU U x=>x)
 |cons e es=>
  rw [hp e bj,jr] at h ⊢;exact evalArgs_plain h
inductive Jy(o:Obj)(first:List Value):Prop
 |fn {fd}:o.data=.func fd->Jy o first
 |cls {C o'}:first=[]->o=Lr C [.type "object"] "object.__new__" o'->Jy o first
theorem iy(hp: ∀e∈es,Plain e)(hf:Jy o first)
  (h:wpAny (abJ prog w) A (acd (ab1 pos (abU es env))) (λvs s₁=>s₁.heap.get? f=some o/\wpAny (abJ prog w) A (call (.ref f) (first++vs)) Q E s₁) E s):
  wpAny (abJ prog w) A (ab2 pos (.ref f) first (ab1 pos (abU es env)) []) Q E s:=by
 induction hf with
 |fn hd=>exact callWith_function (l7 hp (wpAny_mono h (λvs s₁ h₁=>⟨⟨h₁.1,hd⟩,h₁.2⟩) λU U x=>x))
 |cls e1 e2=>
  subst e1 e2;have hst:((ab1 pos (abU es env)).any (λx=>x.fst)||([]:List (Option Str×Sem Value)).any λx=>x.fst.isNone)=false:=by
   rw [(plain_all hp).2];rfl
  refine (fm (l7 hp (wpAny_mono h (λvs s₁ h₁=>?_) λU U x=>x)));obtain ⟨hh,g,d,t,os⟩:=s₁;obtain ⟨hC,h₁⟩:=h₁;have f1:=tc_lookup;have hT:(⟨hh,g,d,t,os⟩:Shared).TypeIs (.ref f) "type":=⟨_,hC,rfl⟩;refine (cX ?_);refine wpAny_bind (m:=keeperOf (.ref f)) (Kl ?_)
  repeat (any_goals (first|assumption|with_reducible refine abP hC ?_|with_reducible refine wpAny_load' hC ?_|wp_step))
  rw [if_pos (by rfl),hst];show wpAny _ _ (call (.ref f) vs []>>=λr=>do ab7 [r] point;pure r) _ _ _;exact wpAny_bind (wpAny_mono h₁ (λr s' hr=>(fm (wpAny_point (wpAny_pure hr)))) λU U x=>x)
theorem call_meth(hbase:acJ o name env (eval o env)=eval o env)(hp: ∀e∈es,Plain e)(hn:gp es.length 30=true)(hl:bo apos.endLine pos.line=true)
  (h:wpAny (abJ prog w) A (eval o env) (λov s₁=> ∀pl,wpAny (abJ prog w) A (getMethod ov name pl) (λfx s₂=>wpAny (abJ prog w) A (ab2 pos fx.1 fx.2 (ab1 pos (abU es env)) []) Q E s₂) E s₁) E s):
  wpAny (abJ prog w) A (eval (.Call (.Attribute o name apos) es [] pos) env) Q E s:=by
 rw [arm_eval_Call,hbase];refine wpAny_bind (wpAny_mono h (λov s₁ h₁=>(cX ?_)) λU U e=>e);have Se:ac8 (es.length+([]:List Keyword).length) (ab1 pos (abU es env)) (adp pos (acS [] env))=true:=by
  unfold ac8;rw [(plain_all hp).1];show (true&&true&&decide (es.length+0+0<30))=true;simpa [g0] using hn
 have hpos:adi true o env apos pos=pure pos:=by unfold adi;simp [cq hl]
 unfold methodCall;rw [Se];exact (fm (wpAny_mono (h₁ _) (λfx s₂ h₂=>(xD hpos h₂)) λU U e=>e))
end
theorem Each.plain(h:Each sc hb es ms): ∀e∈es,Plain e:=by
 induction h with
 |nil=>nofun
 |cons h _ ih=>exact du.mpr ⟨h.1,ih⟩
theorem ny.no(h:ny z c fs u)(hx: ∀i,aU bx i≠some (sl x)): ∃a m,u=.ref a/\z.s.heap.Inst a (dM c) m/\m x=none:=by
 refine ae λaA=>?_;induction h with|mk i d _=>induction i with|mk a b c d' e f=>induction f with|mk f1 f2 f3 f4 f5 f6 f7=>
 refine aA ?_;refine ⟨_,_,rfl,⟨_,a,b,d',.inr ⟨_,c,e,_,_,_,f1,f4,f5,f6,f7⟩⟩,ae λq=>?_⟩;refine ae λb8=>?_;obtain ⟨k,v,a,_⟩:=d.2 x q;refine b8 ?_;exact hx k a
theorem Jz{z:Z C}(hv:az z.y v u)(q:bk c v z.H=true)(hx: ∀i,aU bx i≠some (sl x)): ∃a m,u=.ref a/\z.s.heap.Inst a (dM c) m/\m x=none:=by
 unfold bk at q;cases e:(sM v z.H).o with
 |none=>rw [e] at q;exact bI q
 |some p=>rw [e] at q;exact cq q▸((W5 hv).o _ e).no hx
section
variable{sc:abL}{es:List bp}{ms:List (M R)}{x:Str}(hE:Each sc false es ms)(np pos:Pos)
include hE
theorem JA(hg:glob sc x=some (.fn k)):aV sc false (.Call (.Name x np) es [] pos) (ao k ms):=λK z Q E w=>by
 refine ae λaA=>?_;obtain ⟨h1,h2⟩:=tN hg;obtain ⟨a,f,e,c⟩:=RW K.C.P h2;refine aA ?_;refine wpAny_Call_NameR (Kl<|eX K.fe (K.hs.symm▸h1) (.inl a) ?_);rw [e];have c: ∃o,bq K.C.P f=some o/\Jy o []:=by
  rcases c with ⟨o,fd,h,d⟩|⟨c,rfl⟩
  ·exact ⟨o,h,.fn d⟩
  ·exact ⟨_,lV _ c,.cls rfl rfl⟩
 refine ae λb8=>?_;obtain ⟨o,ho,hf⟩:=c;refine b8 ?_;exact iy hE.plain hf (one (jE hE) w λvs z' xs w U r=>⟨z'.base ho,pU (K.hh rfl) (.inl ⟨e.symm,⟨_,rfl⟩,r⟩) w⟩)
omit hE in
theorem Oi{x:Value}(hv:az y v x)(h:Lb v=some c):v=.ou c.1 c.2/\ ∃f o fd,x=.ref f/\y.J f=some o/\o.data=.func fd:=by
 cases v with
 |ou k caps=>cases ag (h);obtain ⟨cl,ns,hk,_⟩:=hv;induction hk with|mk h1 h2 h3=>exact ⟨rfl,_,_,_,rfl,h1,h3⟩
 |_=>exact bw h
theorem Ez(hx:iQ sc x=some i):aV sc false (.Call (.Name x np) es [] pos) (kF i ms):=λK z Q E w=>
 wpAny_Call_NameR (one (DO (pos:=np) hx).plain w λv z1 xv w U hv=>w.opt λc e w=>by
  refine ae λaA=>?_;obtain ⟨ev,f,o,fd,rfl,h1,h3⟩:=Oi hv e;refine aA ?_;exact iy hE.plain (.fn h3) (one (jE hE) w λa z' xs w A r=>⟨z'.qZ (A.j _ _ h1),pU (K.hh rfl) (.inr ⟨c.2,a,rfl,(ev▸hv.mono A.toUp:_),r⟩) w⟩))
theorem JB(hO:aV sc false o mo)(h0:jF o)(hk:bX (sl x) kg=some (k,c))
  (ap:Pos) (hl:bo ap.endLine pos.line=true) (hn:gp es.length 30=true):aV sc false (.Call (.Attribute o x ap) es [] pos) (rA k c mo ms):=λK z Q E w=>by
 refine call_meth (h0 _ _ _) hE.plain hn hl (one hO.plain w λv z0 xv w U hv pl=>w.guard λq w=>?_);have hm:=lU hk;have g1:=ai (NC K.C.P) hm;have g2:=ai ND hm;have g3:=ai (NF K.C.P) hm;have g4:=ai NG hm;dsimp only at g1 g2 g3 g4;rw [b9] at g1 g4;have g5: ∃y,ab5 (.type "object") x=pure y:=by
  rw [abT,abO];exact yg (x:=aee "object" x) (congrArg (λU=>U.1) g4) λy q=>⟨y,by rw [q]⟩
 refine ae λaA=>?_;obtain ⟨y,g5⟩:=g5;have hx: ∀i,aU bx i≠some (sl x):=λi h=>by
  have h4:bx.any (λl=>bP l (sl x))=false:=congrArg (λU=>U.2) g4;exact q0.mp h4 _ (dQ h) (lQ _)
 obtain ⟨a,m,rfl,hI,hm⟩:=Jz hv q hx;refine aA ?_;have hC:=z0.base (lV K.C.P c);have hF:=z0.base g3;refine Kl<|PySem.method_of hC ((tH K.C.P c).ns λU U=>z0.base) (Ab K.C.P c (cb _ bj)) (Ab K.C.P c (cb _ (cb _ bj))) g1 hF rfl g5 hI hm ?_;refine iy hE.plain (.fn rfl) (snd (a:=v) (x:=.ref a) mT zW (jE hE) hv w λvs z' xs w U hr hv'=>⟨z'.base g3,pU (vs:=v::vs) (K.hh rfl) (.inl ⟨g2.symm,⟨_,rfl⟩,_,_,rfl,hr,hv'⟩) w⟩)
end
end MP
end Mine.Lake
end
section
namespace Mine.Lake
namespace MP
open PySem PySem.W PyProof.Rows
section
variable{β:Type}{r l l2:List (Str×β)}{n:Str}
theorem vU(h:n∈r.map (λU=>U.1)):(r.lookup n).isSome=true:=by
 induction r with
 |nil=>cases h
 |cons x r ih=>
  rw [mx];cases q:n==x.1 with
  |true=>rfl
  |false=>exact ih ((de.mp h).resolve_left λe=>by rw [e,beq_self_eq_true] at q;cases q)
theorem EA(h:n∉r.map (λU=>U.1)):r.lookup n=none:=by
 induction r with
 |nil=>rfl
 |cons x r ih=>
  rw [mx,beq_eq_false_iff_ne.mpr λe=>h (de.mpr (.inl e))];exact ih λm=>h (cb _ m)
theorem Oj(h:(r.map (λU=>U.1)).Nodup): ∀x∈r,r.lookup x.1=some x.2:=by
 induction r with
 |nil=>exact λU h=>nomatch h
 |cons y r ih=>
  have h:=iq.mp h;refine λx hx=>?_;rw [mx];rcases de.mp hx with rfl|hx
  ·rw [beq_self_eq_true]
  ·rw [beq_eq_false_iff_ne.mpr λe=>h.1 (dy.mpr ⟨x,hx,e⟩)];exact ih h.2 x hx
theorem JC(h: ∀x∈l,r.lookup x.1=some x.2):(l.map (λU=>U.1)).filterMap (λn=>(r.lookup n).map (λU=>(n,U)))=l:=by
 induction l with
 |nil=>rfl
 |cons x l ih=>
  rw [oC,wi,h x bj,ih λy hy=>h y (cb _ hy)];rfl
end
noncomputable def fZ(x:Str×Value)(r:List (Str×Value)):Sem (ForInStep (List (Str×Value))):=if (aaJ x.fst r).isNone=true then pure (oa (r++[(x.fst,x.snd)])) else pure (oa r)
section
variable{l l2 r:List (Str×Value)}
theorem B4(h: ∀x∈l,x.1∈r.map (λU=>U.1)):forIn (l++l2) r fZ=forIn l2 r fZ:=by
 induction l with
 |nil=>rfl
 |cons x l ih=>
  have e:fZ x r=pure (oa r):=by
   have q:=vU (h x bj);unfold fZ;revert q;induction r.lookup x.1 with
   |none=>exact λq=>bI q
   |some y=>exact λU=>rfl
  rw [aaT,ij,e,pure_bind];exact ih λy hy=>h y (cb _ hy)
theorem EB(h:((r++l).map (λU=>U.1)).Nodup):forIn l r fZ=(pure (r++l):Sem _):=by
 induction l generalizing r with
 |nil=>(rewrite [gn];try with_reducible rfl);rfl
 |cons x l ih=>
  have e:fZ x r=pure (oa (r++[x])):=by
   unfold fZ
   (rewrite [EA λm=>?_];try with_reducible rfl)
   ·rfl
   ·(rewrite [th,zi] at h;try with_reducible rfl)
    exact h.2.2 _ m _ bj rfl
  (rewrite [ij,e,pure_bind];try with_reducible rfl)
  have h':r++x::l=r++[x]++l:=by simp
  (rewrite [h'] at h ⊢;try with_reducible rfl)
  exact ih h
end
inductive Zl{α β:Type}:List α->List β->List β->Prop
 |mk {P1 P2 P3:List α} {v1 v2 d2 d3:List β}:P1.length=v1.length->P2.length=v2.length->P2.length=d2.length->P3.length=d3.length->Zl (P1++(P2++P3)) (v1++v2) (d2++d3)
theorem cut{α:Type}(l:List α)(h:n<=l.length): ∃a b,l=a++b/\a.length=n:=⟨l.take n,l.drop n,(Sr n l).symm,(List.length_take ..).trans (Hb h)⟩
theorem Ol{P:List α}{v d:List β}(h1:v.length<=P.length)(h2:P.length<=v.length+d.length)(h3:d.length<=P.length):Zl P v d:=by
 obtain ⟨P1,Q,rfl,e0⟩:=cut P (Nat.sub_le P.length d.length);have e:Q.length=d.length:=by
  rw [dk] at e0 h3
  have:=(Nat.sub_eq_iff_eq_add h3).mp e0.symm
  exact Hm this
 rw [dk] at h1 h2;rw [e] at h2;obtain ⟨v1,v2,rfl,e1⟩:=cut v (Kb h2);rw [dk,e1] at h1;have h1:=xb h1;obtain ⟨P2,P3,rfl,e2⟩:=cut Q h1;obtain ⟨d2,d3,rfl,e3⟩:=cut d (e▸h1);rw [dk,dk,e2,e3] at e;exact .mk e1.symm e2 (e2.trans e3.symm) (Hm e)
section
variable{α β:Type}{P1 P2 P3:List α}{v1 v2 d2 d3:List β}(h1:P1.length=v1.length)(h2:P2.length=v2.length)(h3:P2.length=d2.length)(h4:P3.length=d3.length)
include h1 h2
theorem Al:(P1++(P2++P3)).zip (v1++v2)=P1.zip v1++P2.zip v2:=by
 rw [tA h1];congr 1;rw [<-gn v2,tA h2];simp
include h3 h4
theorem Am:(P1++(P2++P3)).length-(d2++d3).length=P1.length/\(d2++d3).length-(P1++(P2++P3)).length=0/\(d2++d3).length+(v1++v2).length-(P1++(P2++P3)).length=d2.length/\ ¬(v1++v2).length>(P1++(P2++P3)).length:=by
 simp only [dk, <-h1, <-h2, <-h3, <-h4];refine ⟨xn _ _,Nat.sub_eq_zero_of_le (ky _ _),?_,px.mpr (dV (cw _ _) _)⟩
 (rewrite [aaA (P2.length+P3.length),nr (P2.length+P3.length) P2.length,aaA P1.length];try with_reducible rfl)
 exact xn _ _
end
section
variable{M:ab0}{A:Around}{E:Value->Shared->Prop}{s:Shared}
theorem EC[Decidable c]{a b:Sem α}{Q:α->Shared->Prop}(h: ¬c)(k:wpAny M A b Q E s):wpAny M A (if c then a else b) Q E s:=(if_neg h).symm▸k
theorem yr{m m':Sem α}{Q:α->Shared->Prop}(e:m=m')(h:wpAny M A m' Q E s):wpAny M A m Q E s:=e▸h
theorem B5{Q:List (Str×Value)->Shared->Prop}(e1:P1.length=v1.length)(e2:P2.length=v2.length)(e3:P2.length=d2.length)(e4:P3.length=d3.length)
  (hp:fd.params=⟨[],as,none,[],[],none,Vk⟩) (hP:as.map (λU=>U.arg)=P1++(P2++P3)) (hnd:(P1++(P2++P3)).Nodup)
  (hd: ∀{R:Option (Array Value)->Shared->Prop},(∀o,(o.getD #[]).toList=d2++d3->R o s)->wpAny M A (ac0 fd.defaults) R E s)
  (hq:Q ((P1.zip v1++P2.zip v2)++P3.zip d3) s):wpAny M A (ads fd ⟨v1++v2,[]⟩) Q E s:=by
 refine ae λaA=>?_;obtain ⟨l1,l2,l3,l4⟩:=Am e1 e2 e3 e4;refine aA ?_;have f1:(P1.zip v1).map (λU=>U.1)=P1:=pd (ke e1);have f2:(P2.zip v2).map (λU=>U.1)=P2:=pd (ke e2);have f4:(P3.zip d3).map (λU=>U.1)=P3:=pd (ke e4);have ff:(P1.zip v1++P2.zip v2).map (λU=>U.1)=P1++P2:=by rw [th,f1,f2]
 have fa:((P1.zip v1++P2.zip v2)++P3.zip d3).map (λU=>U.1)=P1++(P2++P3):=by rw [th,ff,f4,eD]
 have e5:(List.filter (λn=>(aaJ n (P1.zip v1++P2.zip v2)).isNone) P1)=[]:=List.filter_eq_nil_iff.mpr λn hm=>by
  have:=vU (n:=n) (r:=P1.zip v1++P2.zip v2) (ff▸lh _ hm)
  revert this;cases aaJ n (P1.zip v1++P2.zip v2)<;>simp
 have e7:=JC (Oj (r:=(P1.zip v1++P2.zip v2)++P3.zip d3) (fa▸hnd));rw [fa] at e7;unfold ads;rw [hp];dsimp only [pj,Hc,xc];rw [pure_bind,hP];refine wpAny_bind (hd λo ho=>?_);refine EC (λq=>l4 (of_decide_eq_true (eJ.mp q).1)) ?_;refine EC (λq=>?_) ?_
 ·revert q;rw [Hc,xc,ho,l2,Ta,l1,List.take_left,Al e1 e2,e5];exact hH
 refine wpAny_bind (yr (m':=pure ((P1.zip v1++P2.zip v2)++P3.zip d3)) ?_ (wpAny_pure ?_))
 ·rw [Hc,xc,ho,l2,Ta,l1,abk,Al e1 e2,tA e3];exact ((B4 (l:=P2.zip d2) λx hx=>ff▸mI _ (List.of_mem_zip (a:=x.1) (b:=x.2) hx).1).trans (EB (fa▸hnd)))
 refine wpAny_bind (yr (m':=pure ((P1.zip v1++P2.zip v2)++P3.zip d3,[])) rfl (wpAny_pure ?_));refine EC hH ?_;exact yr (congrArg pure ((congrArg (List.filterMap _) (gn (P1++(P2++P3)))).trans e7)) (wpAny_pure hq)
theorem pV{Q:List (Str×Value)->Shared->Prop}(hp:fd.params=⟨[],as,none,[],[],none,Vk⟩)(hnd:(as.map (λU=>U.arg)).Nodup)
  (hd: ∀{R:Option (Array Value)->Shared->Prop},(∀o,(o.getD #[]).toList=ds->R o s)->wpAny M A (ac0 fd.defaults) R E s)
  (h1:vals.length<=as.length) (h2:as.length<=vals.length+ds.length) (h3:ds.length<=as.length)
  (hq:Q ((as.map (λU=>U.arg)).zip (vals++ds.drop (ds.length+vals.length-as.length))) s):wpAny M A (ads fd ⟨vals,[]⟩) Q E s:=by
 have hl:as.length=(as.map (λU=>U.arg)).length:=(df ..).symm;rw [hl] at h1 h2 h3 hq;generalize hP:as.map (λU=>U.arg)=P at*;have sp:=Ol h1 h2 h3;refine ae λaA=>?_;induction sp with|@mk P1 P2 P3 v1 v2 d2 d3 e1 e2 e3 e4=>
 have iS:=Am e1 e2 e3 e4;have l3:=iS.2.2.1;refine aA ?_;rw [l3,abk,eD,tA e1,tA e2, <-eD] at hq;exact B5 e1 e2 e3 e4 hp hP hnd hd hq
end
end MP
end Mine.Lake
end
section
namespace Mine.Lake
namespace MP
open PySem PySem.W PyProof.Rows
noncomputable abbrev gb:Obj:={cls:=.type "frame",data:=.dict #[]}
noncomputable def St.into(S:St)(A:Around)(env:dq)(sc:abL):Cx:=⟨S,A.deeper env,env,sc⟩
noncomputable def Wd.enter(y:Wd)(L:Addr)(cx:Addr->Option Nat):Wd:=⟨λa=>if a=L then some .ns else (cx a).elim (y.W a) λi=>some (.cell i),y.φ⟩
noncomputable def Wd.bare(y:Wd):Wd:=⟨λa=>(y.W a).bind λx=>cond x.mine none (some x),y.φ⟩
theorem InvH.live{S:St}(I:InvH S y ρ H s)(e:y.W a=some x): ∃o,s.heap.get? a=some o:=by
 have w:=I.own a x e;induction x with
 |kept o=>exact ⟨_,w⟩
 |held o=>induction w with|mk e=>exact ⟨_,e⟩
 |_=>exact w
section
variable{y:Wd}{L a:Addr}{cx:Addr->Option Nat}{x:Ow}
theorem nE(e:(y.enter L cx).W a=some x):(a=L/\x=.ns)\/(∃i,cx a=some i/\x=.cell i)\/y.W a=some x:=by
 change (if a=L then _ else _)=some x at e;by_cases q:a=L
 ·rw [if_pos q] at e;cases ag (e);exact .inl ⟨q,rfl⟩
 ·rw [if_neg q] at e;cases p:cx a with
  |none=>rw [p] at e;exact .inr (.inr e)
  |some i=>rw [p] at e;cases ag (e);exact .inr (.inl ⟨i,rfl,rfl⟩)
theorem rT(h1:a≠L)(h2:cx a=none):(y.enter L cx).W a=y.W a:=by
 show (if a=L then _ else _)=_;rw [if_neg h1,h2];rfl
theorem yt(h1:a≠L)(h2:cx a=some i):(y.enter L cx).W a=some (.cell i):=by
 show (if a=L then _ else _)=_;rw [if_neg h1,h2];rfl
theorem oO(e:y.bare.W a=some x):y.W a=some x/\x.mine=false:=by
 change (y.W a).bind _=some x at e;cases q:y.W a with
 |none=>rw [q] at e;exact bw (e)
 |some u=>
  rw [q] at e;change cond u.mine none (some u)=some x at e;cases m:u.mine with
  |true=>rw [m] at e;exact bw (e)
  |false=>rw [m] at e;cases ag (e);exact ⟨rfl,m⟩
theorem jI(e:y.W a=some x)(m:x.mine=false):y.bare.W a=some x:=by
 show (y.W a).bind _=_;rw [e];show cond x.mine _ _=_;rw [m];rfl
theorem gY(e:y.W a=none):y.bare.W a=none:=by
 show (y.W a).bind _=_;rw [e];rfl
theorem jJ(e:y.W a=some x)(m:x.mine=true):y.bare.W a=none:=by
 show (y.W a).bind _=_;rw [e];show cond x.mine _ _=_;rw [m];rfl
end
def yu(y:Wd)(h':Heap)(env:dq)(cx:Addr->Option Nat)(i:Nat):Slot->Prop
 | .empty=> ∀n k,aU env.scope.names i=some (n,k)->gM k=true->k=.local\/ ∃c,cU k=true/\env.cells.lookup n=some c/\cx c=some i/\h'.IsCell c none
 | .fix v=> ∃n k c o x,aU env.scope.names i=some (n,k)/\cU k=true/\env.cells.lookup n=some c/\y.J c=some o/\o.data=.cell (some x)/\az y v x
 |_=>False
def vV(A:Around)(env:dq)(y:Wd):Prop:= ∃e0 r,A.frames=some (e0::r)/\e0.frame=env.frame/\ ∀e∈e0::r,e.scope.kind≠ .module/\ ∃L,e.frame=some L/\((L=env.locals/\env.frame=some L)\/kL y.W L)
theorem Zh.enter{S:St}(z:Zh S)(fr:vV A env z.y)
  (hL:z.s.heap.get? env.locals=none) (hns:h'.Ns env.locals m) (Zm:lH env h') (k:Keeps z.s.heap h') (hc: ∀c i,cx c=some i->z.s.heap.get? c=none/\c≠env.locals/\ ∃o,h'.get? c=some o) (hl:ρ.length=sc.names.length) (Zn: ∀i,yu z.y h' env cx i (bh ρ i)):
  ∃I:Inv ⟨S,A,env,sc⟩ (z.y.enter env.locals cx) ρ z.H {z.s with heap:=h',toks:=t},Le z.y (z.y.enter env.locals cx):=by
 have old: ∀{a x},z.y.W a=some x->(z.y.enter env.locals cx).W a=some x:=λe=>by
  obtain ⟨o,w⟩:=z.I.live e;refine (rT (λq=>?_) ?_).trans e
  ·rw [q,hL] at w;exact bw (w)
  ·cases q:cx _ with
   |none=>rfl
   |some i=>exact bw ((hc _ i q).1.symm.trans w)
 have ns:(z.y.enter env.locals cx).W env.locals=some .ns:=if_pos rfl;have u:Up z.y (z.y.enter env.locals cx):=⟨λa o e=>congrArg bR (old (aJ e)),λU U e=>e⟩;have nov: ∀i o,bh ρ i≠ .own o:=λi o e=>by have:=Zn i;rw [e] at this;exact this
 have K:xq ⟨S,A,env,sc⟩ z.y (z.y.enter env.locals cx) [] ρ z.H z.H z.s {z.s with heap:=h',toks:=t} (λU=>False):=⟨u,λa x e U=>⟨old e,k a⟩,λa x e=>by
   rcases nE e with ⟨rfl,rfl⟩|⟨i,h,rfl⟩|e
   ·exact .inr (Zm.imp λo q=>q.1)
   ·exact .inr (hc a i h).2.2
   ·exact .inl ⟨e,id⟩,λU U h=>h.elim,z.I.len,λx o e=>by
   induction x with
   |obj i=>exact .inl ⟨e,rfl,λU U U U=>id⟩
   |own i=>exact (nov i _ (gO e)).elim,rfl,rfl⟩
 refine ⟨{toInvH:=z.I.upd K,iK:=ns,vars:=λi=>?_,rl:=hl,loc:=Zm,frames:=?_},u,λa o e=>old e⟩
 ·have w:=Zn i;cases q:bh ρ i with
  |empty=>
   rw [q] at w
   rintro ⟨n,kd,hn,ho⟩
   rcases w n kd hn ho with rfl|⟨c,hk,h1,h2,h3⟩
   ·exact ⟨_,.loc hn hns⟩
   ·exact ⟨_,.qV hn hk h1 (yt (hc c i h2).2.1 h2) (.inl rfl) h3⟩
  |fix v=>
   rw [q] at w;refine ae λaA=>?_;obtain ⟨n,kd,c,o,x,h1,h2,h3,h4,h5,h6⟩:=w;refine aA ?_;exact ⟨x,.qV (w:=.kept o) h1 h2 h3 (old (aJ h4)) (.inr rfl) ⟨o,k _ _ (z.I.own _ _ (aJ h4)),h5⟩,h6.mono u⟩
  |_=>rw [q] at w;exact w.elim
 ·exact fr.imp λe0 x=>x.imp λr x=>⟨x.1,x.2.1,λe he=>⟨(x.2.2 e he).1,(x.2.2 e he).2.imp λL q=>⟨q.1,q.2.imp id λq=>by induction q with|mk a b c=>exact .mk (old a) b c⟩⟩⟩
theorem vV.deeper{A:Around}(fr: ∃r,A.frames=some r/\ ∀e∈r,e.scope.kind≠ .module/\ ∃L,e.frame=some L/\kL y.W L)(F:FE env sc)(ef:env.frame=some env.locals):vV (A.deeper env) env y:=by
 obtain ⟨r,f1,f2⟩:=fr;refine ⟨env,r,Around.frames_deeper f1,rfl,λe he=>?_⟩;rcases de.mp he with rfl|he
 ·exact ⟨by rw [F.kind];decide,_,ef,.inl ⟨rfl,ef⟩⟩
 ·exact ⟨(f2 e he).1,(f2 e he).2.imp λL q=>⟨q.1,.inr q.2⟩⟩
section
variable{C:Cx}(z:Z C)
theorem Z.leave:InvH C.toSt z.y.bare [] z.H z.s/\qY z.y.bare:=by
 have K:xq C z.y z.y.bare z.ρ [] z.H z.H z.s z.s (λa=> ∃x,z.y.W a=some x/\x.mine=true):=⟨⟨λa o e=>congrArg bR (jI (aJ e) rfl),λU U e=>e⟩,λa x e q=>⟨jI e (by
   cases m:x.mine with
   |true=>exact (q ⟨x,e,m⟩).elim
   |false=>rfl),λU e=>e⟩,λa x e=>.inl ⟨(oO e).1,λ⟨x',e',m⟩=>by cases ag ((oO e).1.symm.trans e');exact bI ((oO e).2.symm.trans m)⟩,λa x ⟨x',e',m⟩ e=>by cases ag (e'.symm.trans e);rcases x with _|_<;>first|rfl|exact bI m,z.I.len,λx o e=>by
   induction x with
   |own i=>rw [dg,bh] at e;exact bw e
   |obj i=>exact .inl ⟨e,rfl,λp hp a pl ⟨x',e',m⟩=>by obtain ⟨d,h⟩:=z.at (ix:=.obj i) e hp pl;cases ag (h.symm.trans e');exact bI m⟩,rfl,rfl⟩
 exact ⟨z.I.toInvH.upd K,λa x e=>(oO e).2⟩
theorem Z.iz{y:Wd}(b:qY y)(l:Le y z.y):Le y z.y.bare:=⟨⟨λa o e=>congrArg bR (jI (aJ (l.j _ _ e)) rfl),λi p e=>l.p i p e⟩,λa o e=>jI (l.h _ _ e) rfl⟩
theorem Z.Om(h:dH z i v)(e:bh z.ρ i=.own o): ∃p,v=.ref p.a/\gy C.P z.y.bare z.s.heap o p:=by
 obtain ⟨p,hp,hb⟩:=z.own (i:=i) (o:=o) (by rw [e];rfl);cases ag ((hb.fn h.choose_spec).2);have w:=z.ob (ix:=.own i) (o:=o) (by (rewrite [dg,e];try with_reducible rfl);rfl) hp;refine ⟨p,rfl,λa pl=>?_,w.o.keep ⟨λa o e=>congrArg bR (jI (aJ e) rfl),λU U e=>e⟩ λU U U U e=>e⟩;rcases pl with rfl|⟨d,rfl⟩
 ·exact jJ w.a rfl
 ·exact jJ (w.d d) rfl
theorem jK(y:Wd):Up y y.bare:=⟨λa o e=>congrArg bR (jI (aJ e) rfl),λU U e=>e⟩
end
theorem JD(P:abK):(match bq P cStatics with|some ⟨_,_,.dict es _,_⟩=>cond (es.toList.all λe=>II e.key) ((acv es "sys.recursionlimit").isNone) false|_=>false)=true:=by kernel_rfl
theorem InvH.noLimit{S:St}(I:InvH S y ρ H s):s.heap.NoLimit:=by
 have h:=JD S.P;cases q:bq S.P cStatics with
 |none=>rw [q] at h;exact bI h
 |some o=>
  rw [q] at h;obtain ⟨c,d,dt,sl⟩:=o;induction dt with
  |dict es ep=>
   obtain ⟨h1,h2⟩:=n9 h;exact ⟨acv es,⟨_,es,ep,I.own _ _ (aJ (I.base _ _ q)),rfl,λe he=>tF (fi.mp h1 e (by simpa using he)),λU=>rfl⟩,Option.isNone_iff_eq_none.mp h2⟩
  |_=>exact bI h
inductive An(y:Wd):Value->List V->Prop
 |none:An y .none []
 |seq {a o items ep dflt}:y.J a=some o->o.data=.seq items ep->aB y dflt items.toList->An y (.ref a) dflt
inductive Oo(y:Wd)(a:Addr)(as:List Arg)(body:List ec)(sc:abL)(dflt:List V):Prop
 |mk {o fd Vk}:y.J a=some o->o.data=.func fd->fd.body=.stmts body->fd.scope=sc->fd.params=⟨[],as,none,[],[],none,Vk⟩->fd.globals=abN->fd.builtins=abW->fd.closure=[]->jg y.J fd.qualname fd.code->An y fd.defaults dflt->
  ((∃i n,aU sc.names i=some (n,oy))-> ∃c P,fd.code=.ref c/\(c,P,fd.qualname++ei ".<locals>."++ei "<lambda>")∈fX)->Oo y a as body sc dflt
def pW(as:List Arg)(sc:abL):Bool:=cond (vq sc) (cond (oF sc.names) (distinct (as.map λa=>sl a.arg)) false) false
theorem l8(h:vq sc=true):dK sc.names=true/\sc.kind=.function/\sc.isGenerator=false/\sc.isCoroutine=false/\s8 sc.names=true:=by
 refine ae λaA=>?_;obtain ⟨h1,h⟩:=n9 h;obtain ⟨h2,h⟩:=n9 h;obtain ⟨h3,h⟩:=oh h;obtain ⟨h4,h⟩:=oh h;refine aA ?_;exact ⟨h1,by generalize sc.kind=k at h2;rcases k with _|_<;>first|rfl|exact bI h2,h3,h4,h⟩
theorem FE.same(he:env.scope=sc)(h:vq sc=true)(hg:env.globals=abN)(hb:env.builtins=abW):FE env sc:=by
 have iS:=l8 h;have a:=iS.1;have b:=iS.2.1;have e:=iS.2.2.2.2;subst he;exact ⟨b,hg,hb,rfl,λi n k h=>⟨k,h,by rcases k with _|_<;>rfl⟩,a,e,a⟩
section
variable{names:List (Str×NameKind)}{n:Str}{acc:List (Str×Addr)}{N i d:Nat}{k:NameKind}
theorem yw(h:(n,oy)∈names\/(acc.lookup n).isSome=true):((adF N names acc).lookup n).isSome=true:=by
 induction names generalizing acc N with
 |nil=>exact h.elim (λh=>nomatch h) id
 |cons a r ih=>
  obtain ⟨m,k⟩:=a;unfold adF;split
  ·refine ih ?_;rw [mx];cases q:n==m with
   |true=>exact .inr rfl
   |false=>exact h.imp (λh=>(de.mp h).resolve_left λe=>by rw [(kj e).1,beq_self_eq_true] at q;cases q) id
  ·rename_i hk
   exact ih (h.imp (λh=>(de.mp h).resolve_left λe=>hk (by rw [<-(kj e).2];rfl)) id)
theorem yx(hf:oF names=true)(h:aU names i=some (n,k)):k≠ .free:=by
 induction names generalizing i with
 |nil=>exact bw h
 |cons a r ih=>
  obtain ⟨m,k0⟩:=a;have hr:k0≠ .free/\oF r=true:=by rcases k0 with _|_<;>first|exact ⟨nofun,hf⟩|exact bI hf
  induction i with
  |zero=>cases ag (h);exact hr.1
  |succ i=>exact ih hr.2 h
theorem gc(n:Nat):(eU n).length=n:=by
 induction n with
 |zero=>rfl
 |succ n ih=>exact congrArg (λU=>U+1) ih
theorem cZ(n i:Nat):bh (eU n) i=.empty:=by
 induction n generalizing i with
 |zero=>rfl
 |succ n ih=>induction i with
  |zero=>rfl
  |succ i=>exact ih i
end
theorem gf{G:Prop}(h:bC sc (n::ns)=some ps)(k: ∀i l,iQ sc n=some i->bC sc ns=some l->ps=i::l->G):G:=
 aQ h λi q h=>aQ h λl p h=>k i l q p (ag h).symm
theorem jL(F:FE C.env C.sc)(hf: ∀n v u,f (n,v) u=(do acm C.env n v;pure (.yield ⟨⟩))){vs:List V}{z:Z C}{Q:PUnit->Shared->Prop}
  (hp:bC C.sc ns=some ps) (hv:aB z.y vs xs) (Ib: ∀p∈ps, ∀u,bh z.ρ p≠ .fix u) (hq: ∀z':Z C,z'.y=z.y->z'.ρ=jd z.ρ (ps.zip vs)->z'.H=z.H->Q ⟨⟩ z'.s):ax C.M A (forIn (ns.zip xs) ⟨⟩ f) Q E z.s:=by
 induction ns generalizing ps vs xs z with
 |nil=>
  cases ag (hp);rw [List.zip_nil_left,pj];exact cp (hq z rfl rfl rfl)
 |cons n ns ih=>
  refine gf hp λi l q1 q2 e=>?_;subst e;cases vs with
  |nil=>cases hv;rw [List.zip_nil_right,pj];exact cp (hq z rfl rfl rfl)
  |cons v vs=>
   refine ae λaA=>?_;obtain ⟨x,xs,rfl,h1,h2⟩:=hv;refine aA ?_;rw [aam,ij,hf];refine ae λb8=>?_;obtain ⟨k,hk,ho⟩:=cV q1;refine b8 ?_;refine bc (bc (eF F (sl:=.val v) hk ho (Ib i bj) ⟨Le.refl _,λU U h=>h,λU U h=>.inl h,λU U=>rfl,h1⟩ λh' t I U U U=>cp ?_));refine ih (z:=⟨_,_,_,_,I⟩) q2 h2 (λp hp u hu=>?_) hq;by_cases e:p=i
   ·subst e;rw [bu (by rw [z.I.rl];exact dz hk)] at hu;cases hu
   ·rw [bD e] at hu;exact Ib p (cb _ hp) u hu
theorem aB.drop{vs:List V}(h:aB y vs xs)(n:Nat):aB y (vs.drop n) (xs.drop n):=by
 induction n generalizing vs xs with
 |zero=>exact h
 |succ n ih=>induction vs with
  |nil=>rcases h with _|_;rfl
  |cons v vs=>obtain ⟨x,r,rfl,_,h⟩:=h;exact ih h
theorem tZ{vs dflt ws:List V}(h:je n vs dflt=some ws):vs.length<=n/\n<=vs.length+dflt.length/\dflt.length<=n/\ws=vs++dflt.drop (dflt.length+vs.length-n):=
 cN h λh e=>gz h λh1 h=>gz h λh2 h3=>⟨aw h1,aw h2,aw h3,by rw [<-drop_eq];exact (ag e).symm⟩
theorem m5{α:Type}{f:α->Str}{l:List α}(h:distinct (l.map λa=>sl (f a))=true):(l.map f).Nodup:=by
 induction l with
 |nil=>exact mB
 |cons a l ih=>
  obtain ⟨q,h⟩:=oh h;refine iq.mpr ⟨λhm=>?_,ih h⟩;obtain ⟨b,hb,e⟩:=dy.mp hm;exact q0.mp q _ (dy.mpr ⟨b,hb,rfl⟩) (by rw [e];exact lQ _)
end MP
end Mine.Lake
end
section
namespace Mine.Lake
namespace MP
open PySem PySem.W PyProof.Rows
section
variable{S:St}{A:Around}{n:Nat}{cf:CF}
structure oi(S:St)(A:Around)(n:Nat)(cf:CF)(y:Wd):Prop where
 cf:M1 S n cf
 bare:qY y
 hd:A.handled=none
 depth:A.depth+1+3*n<=900
 units:A.units+3+16*n<=9000
 frames: ∃r,A.frames=some r/\ ∀e∈r,e.scope.kind≠ .module/\ ∃L,e.frame=some L/\kL y.W L
def oi.kx{y:Wd}(K:oi S A n cf y){env:dq}{sc:abL}(F:FE env sc)(lm:rE env sc):Kx sc false:=⟨S.into A env sc,n,cf,rfl,F,K.depth,K.units,lm,K.cf,λU=>K.hd⟩
theorem oi.dep(K:oi S A n cf y):A.depth<=950:=bt (bt (bt (tI _) (cw _ _)) K.depth) (aw rfl)
theorem Po.leave{rel:Rl α γ}{z:Z C}{Q:γ->Shared->Prop}{out:Out α}(w:Po b rel z out Q E):Po b rel z out Q (λe s'=>wpAny C.M C.A (adN C.env e) (λU s''=>E e s'') (λe' s''=>E e' s'') s'):=
 ⟨w.fits,w.ok,λk u z' v e l F=>Kl<|yq F λz2 A U e2 e3 F=>w.exc k u z2 v (by rw [e2,e3];exact e) (l.trans A.toLe) F.Sb⟩
noncomputable def yy(f:fA):Value:=match f with| .ret v=>v|_=>.none
theorem t8(K:oi S A n cf y)(F:FE env sc)(lm:rE env sc)(hb:gU b sc false body ms){z:Z (S.into A env sc)}{R:ab6->Shared->Prop}
  (w:Po b bz z (br ms cf z.ρ z.H) (λf s=>R (.ok (.ret (yy f))) s) (λe s=>R (.error e) s)):z.s.heap.NoLimit/\codeAny S.M A (.func body env) R z.s:=
 ⟨z.I.noLimit,codeAny_func (jq hb (K.kx F lm) z _ _ w.leave)⟩
theorem ED{sc:abL}{h:Heap}(ho:dK sc.names=true): ∃cx:Addr->Option Nat,(∀c i,cx c=some i->h.get? c=none/\c≠h.objs.size/\ ∃o,(ad2 (h.push gb) sc.names).get? c=some o)/\
  ∀i n,aU sc.names i=some (n,.cell)-> ∃c,(adF (h.objs.size+1) sc.names []).lookup n=some c/\cx c=some i/\(ad2 (h.push gb) sc.names).IsCell c none:=by
 have ok:=cellsFrom_ok sc.names (h.push gb) (h.objs.size+1) [] ⟨λU U hm=>(nomatch hm),abI⟩ (by rw [ip];exact eb _);rw [ip] at ok;generalize hc:adF (h.objs.size+1) sc.names []=cells at ok
 classical
 refine ⟨λc=>if h: ∃i n,aU sc.names i=some (n,oy)/\cells.lookup n=some c then some h.choose else none,λc i e=>?_,λi n hn=>?_⟩
 ·by_cases q: ∃i n,aU sc.names i=some (n,oy)/\cells.lookup n=some c
  ·obtain ⟨_,n,_,q⟩:=q;refine ae λaA=>?_;obtain ⟨⟨o,ho,_⟩,hle⟩:=ok.empty n c (mem_of_lookup q);refine aA ?_;refine ⟨?_,vl hle,o,ho⟩;cases q:h.get? c with
   |none=>rfl
   |some o=>exact absurd (ik q) (px.mpr (kp hle))
  ·exact bw ((dif_neg q).symm.trans e)
 ·have hs:(cells.lookup n).isSome=true:=by rw [<-hc];exact yw (.inl (dQ hn))
  obtain ⟨c,hcn⟩:=xf.mp hs;have ex: ∃i n,aU sc.names i=some (n,oy)/\cells.lookup n=some c:=⟨i,n,hn,hcn⟩;refine ⟨c,hcn,(dif_pos ex).trans ?_,(ok.empty n c (mem_of_lookup hcn)).1⟩;refine ae λb8=>?_;obtain ⟨n',h',Xh⟩:=ex.choose_spec;refine b8 ?_;cases name_of_addr ok.apart (mem_of_lookup hcn) (mem_of_lookup Xh);rw [jl ho hn h']
theorem m6{z:Zh S}(Xi:A.depth<=950)(hfr: ∃r,A.frames=some r/\ ∀e∈r,e.scope.kind≠ .module/\ ∃L,e.frame=some L/\kL z.y.W L){dflt:List V}(fn:Oo z.y a as body sc dflt)(ok:pW as sc=true)(h1:xs.length<=as.length)(h2:as.length<=xs.length+dflt.length)(h3:dflt.length<=as.length){R:ab6->Shared->Prop}
  (hk: ∀(env:dq) (z1:Z (S.into A env sc)) (ds:List Value),FE env sc->rE env sc->z1.ρ=eU sc.names.length->z1.H=z.H->Le z.y z1.y->(∀a,z1.y.W a≠none->z.y.W a=none->z.s.heap.get? a=none)->Keeps z.s.heap z1.s.heap->aB z.y dflt ds-> ∀(f:Str×Value->PUnit->Sem (ForInStep PUnit)),(∀n v u,f (n,v) u=(do acm env n v;pure (.yield ⟨⟩)))->
   wpAny S.M A.in1 (forIn ((as.map (λU=>U.arg)).zip (xs++ds.drop (dflt.length+xs.length-as.length))) ⟨⟩ f) (λU s2=>s2.heap.NoLimit/\codeAny S.M A (.func body env) R s2) (λe s'=>R (.error e) s') z1.s):
  codeAny S.M A (.call (.ref a) ⟨xs,[]⟩) R z.s:=by
 refine ae λaA=>?_;obtain ⟨hs,ok1⟩:=n9 ok;obtain ⟨hn,Vl⟩:=n9 ok1;induction fn with|@mk o fd Vk f1 f2 f3 f4 f5 f6 f7 f8 f9 Zo f11=>
 obtain ⟨q1,q2,q3,q4,q5⟩:=l8 hs;subst f4;refine aA ?_;have live: ∀{a o},z.y.J a=some o->z.s.heap.get? a=some o:=λe=>z.I.own _ _ (aJ e);have Vm:z.s.heap.CodeRec fd.code fd.qualname:=by generalize fd.code=c at f9;induction f9 with|mk d1 d2 d3=>exact ⟨_,_,_,_,rfl,live d1,d2,d3⟩
 refine codeAny_call_function (show A.depth<ac9 from dA Xi (aw rfl)) (live f1) f2 q4 q3 f3 Vm ?_;have dd: ∃ds:List Value,aB z.y dflt ds/\ ∀{R:Option (Array Value)->Shared->Prop} {E:Value->Shared->Prop},(∀o,(o.getD #[]).toList=ds->R o z.s)->wpAny S.M A.in1 (ac0 fd.defaults) R E z.s:=by
  generalize fd.defaults=d at Zo ⊢;induction Zo with
  |none=>exact ⟨[],rfl,λh=>wpAny_of_eq (a:=none) rfl (h none rfl)⟩
  |seq e2 e3 e4=>exact ⟨_,e4,λh=>Kl<|adO (live e2) e3 (h _ rfl)⟩
 refine ae λb8=>?_;obtain ⟨ds,hds,hl⟩:=dd;refine b8 ?_;have hdl:dflt.length=ds.length:=hds.len;refine pV f5 (m5 Vl) hl h1 (by rw [<-hdl];exact h2) (by rw [<-hdl];exact h3) ?_;rw [f8,f6,f7];simp only [acz,aan,pz,if_false];refine wpAny_bind (Kl<|wpAny_alloc ?_);refine wpAny_bind (Kl<|wpAny_layCells _ (λname kind cells=>by cases hkc:kind==oy<;>simp [hkc]) _ _ _ _ ?_);rw [show ({z.s with heap:=z.s.heap.push gb}:Shared).heap.objs.size=z.s.heap.objs.size+1 from ip ..];refine wpAny_bind ?_;refine ae λjT=>?_;obtain ⟨cx,c1,c2⟩:=ED (h:=z.s.heap) q1;have k1:Keeps z.s.heap (ad2 (z.s.heap.push gb) fd.scope.names):=λb o e=>adG _ _ b o (cn _ e);have F:FE {scope:=fd.scope,locals:=z.s.heap.objs.size,globals:=abN,cells:=adF (z.s.heap.objs.size+1) fd.scope.names [],qual:=fd.qualname++ei ".<locals>.",func:=some a,code:=fd.code,frame:=some z.s.heap.objs.size,builtins:=abW} fd.scope:=FE.same rfl hs rfl rfl;have hL:(ad2 (z.s.heap.push gb) fd.scope.names).get? z.s.heap.objs.size=some gb:=adG _ _ _ _ (da _ rfl);obtain ⟨I,l⟩:=z.enter (t:=z.s.toks) (.deeper hfr F rfl) (aN _) ((abF z.s.heap (.type "frame")).keeps (adG _ _)) ⟨_,hL,λU=>rfl,_,_,rfl,λU he=>(wq _ he).elim⟩ k1 c1 (gc _) λi=>by
  rw [cZ];intro n k hk ho;induction k with
  |«local»=>exact .inl rfl
  |cell=>exact .inr ((c2 i n hk).imp λc q=>⟨rfl,q⟩)
  |free=>exact (yx hn hk rfl).elim
  |_=>exact bI ho
 refine jT ?_;rw [<-hdl];refine wpAny_mono (hk _ ⟨_,_,_,_,I⟩ ds F (λhc=>f11 hc) rfl rfl l (λb hb e=>?_) k1 hds _ (λU U U=>rfl)) (λU s2 h=>wpAny_pure h) λU U h=>h;cases q:(z.y.enter z.s.heap.objs.size cx).W b with
 |none=>exact (hb q).elim
 |some x=>
  rcases nE q with ⟨rfl,_⟩|⟨i,h,_⟩|h
  ·exact aN _
  ·exact (c1 b i h).1
  ·exact bw (e.symm.trans h)
end
end MP
end Mine.Lake
end
section
namespace Mine.Lake
namespace MP
open PySem PySem.W PyProof.Rows
section
variable{sc:abL}{ns:List Str}{ps:List Nat}(h:bC sc ns=some ps)
include h
theorem places_len:ps.length=ns.length:=by
 induction ns generalizing ps with
 |nil=>cases ag (h);rfl
 |cons n ns ih=>refine gf h λi l U q e=>?_;subst e;exact congrArg (λU=>U+1) (ih q)
theorem pX(hm:p∈ps): ∃n∈ns,iQ sc n=some p:=by
 induction ns generalizing ps with
 |nil=>cases ag (h);cases hm
 |cons n ns ih=>
  refine gf h λi l a q e=>?_;subst e;rcases de.mp hm with rfl|hm
  ·exact ⟨n,bj,a⟩
  ·exact (ih q hm).imp λU x=>⟨cb _ x.1,x.2⟩
end
theorem B6{ps:List Nat}(h:i∉ps):bh (jd ρ (ps.zip ws)) i=bh ρ i:=by
 induction ps generalizing ws ρ with
 |nil=>rfl
 |cons p ps ih=>induction ws with
  |nil=>rfl
  |cons w ws=>exact (ih λhm=>h (cb _ hm)).trans (bD λe=>h (e▸bj))
section
variable{S:St}{z:Zh S}{R:ab6->Shared->Prop}
theorem lg.opt{x:Option ι}{f:ι->Res}{G:Prop}(w:lg z (rB x f) R)(h: ∀i,x=some i->lg z (f i) R->G):G:=by
 induction x with
 |none=>exact w.fits.elim
 |some i=>exact h i rfl w
theorem Ao{z:Z C}(h:bK C z r v)(e:MX r z.ρ=some x):Lm C.P z.y.bare z.s.heap x v:=by
 induction r with
 |val y=>rcases e with _|_;exact az.mono (jK _) y h
 |own o=>rcases e with _|_;exact h.imp λp g=>⟨g.1,g.2.keep (jK _) λa q=>⟨gY (g.2.n a q),λU e=>e⟩⟩
 |slot i=>exact aQ e λo q e=>by cases ag (e);exact z.Om h (gO q)
theorem B7{z3:Z (S.into A env sc)}(r:oK z3 a v)(w:lg z (eB (.ok a z3.ρ z3.H)) R)(b:qY z.y)(l:Le z.y z3.y):R (.ok (.ret (yy v))) z3.s:=by
 obtain ⟨I,b'⟩:=z3.leave;have go:=λ{res:Res} (w:lg z res R) r v e=>w.ok r ⟨_,z3.H,z3.s,I⟩ v e (z3.iz b l) b';induction r with
 |next=>exact go w _ _ rfl rfl
 |brk=>exact w.fits.elim
 |cont=>exact w.fits.elim
 |ret hr=>exact lg.opt w λx e w=>go w _ _ rfl (Ao hr e)
theorem EE(h:Told (eB out))(hd:A.handled=none):Fits A out:=by
 induction out with
 |ok=>trivial
 |exc=>exact hd
 |_=>exact h
theorem Aq{z2:Z (S.into A env sc)}(K:oi S A n cf z.y)(l:Le z.y z2.y)(w:lg z (eB out) R):Po false bz z2 out (λf s=>R (.ok (.ret (yy f))) s) (λe s=>R (.error e) s):=
 ⟨EE w.fits K.hd,λa z3 v e A r=>B7 r (e▸w) K.bare (l.trans A.toLe),λk u z3 v e l' F=>by
  obtain ⟨I,b⟩:=z3.leave;exact w.exc k u ⟨_,z3.H,z3.s,I⟩ v (e▸rfl) (z3.iz K.bare (l.trans l')) b (F.to (jK _) λa=>gY)⟩
end
theorem bnd(h1:a<=n)(h2:n<=a+c)(h3:c<=n):a+1<=n+1/\n+1<=a+1+c/\c<=n+1/\c+(a+1)-(n+1)=c+a-n:=
 ⟨sa h1,bt (sa h2) (ke (hY a c 1)),aaB h3,Nat.succ_sub_succ (c+a) n⟩
section
variable{S:St}{A:Around}{n:Nat}{cf:CF}{z:Zh S}{as:List Arg}{body:List ec}{sc:abL}{dflt:List V}(ok:pW as sc=true){ps:List Nat}(hps:bC sc (as.map (λU=>U.arg))=some ps){ms:List fF}{vs:List V}{xs:List Value}(hv:aB z.y vs xs){R:ab6->Shared->Prop}
include ok hps hv
theorem yz(K:oi S A n cf z.y)(fn:Oo z.y a as body sc dflt)(hb:gU false sc false body ms)(w:lg z (iJ ⟨.plain,0,ps,dflt,sc.names.length,ms⟩ cf vs z.H) R):codeAny S.M A (.call (.ref a) ⟨xs,[]⟩) R z.s:=lg.opt w λws q w=>by
 refine ae λaA=>?_;obtain ⟨l1,l2,l3,l4⟩:=tZ q;refine aA ?_;have hl:ps.length=as.length:=(places_len hps).trans (df ..);rw [hl,hv.len] at l1 l2 l4;rw [hl] at l3;refine m6 K.dep K.frames fn ok l1 l2 l3 λenv z1 ds F lm e1 e2 l U U hds f hf=>?_;refine Kl<|jL F hf (vs:=ws) hps ?_ (λp U u hu=>by rw [e1,cZ] at hu;cases hu) λz2 d1 d2 d3=>?_
 ·rw [l4];exact (hv.mono l.toUp).app ((hds.mono l.toUp).drop _)
 ·exact t8 K F lm hb (Aq K (d1▸l) (by rw [d2,d3,e1,e2];exact w))
end
end MP
end Mine.Lake
end
section
namespace Mine.Lake
namespace MP
open PySem PySem.W PyProof.Rows
noncomputable def uA(A:Around)(c:Addr)(xs:List Value):Around:=A.under (.builtin "type.__call__" ⟨.ref c::xs,[]⟩)
inductive pY(P:abK)(c:Nat)(fI:Addr):Prop
 |mk {oI}:ko P (pK P c) "__init__"=some (.ref fI)->bq P fI=some oI->oI.cls=.type "function"->pY P c fI
theorem Zh.iR{S:St}(z:Zh S)(k:Keeps z.s.heap h'):InvH S z.y [] z.H {z.s with heap:=h'} where
 own a x e:=(z.I.own a x e).keep (k a)
 len:=z.I.len
 obs x o e:=(z.I.obs x o e).imp λp w=>⟨w.f,w.a,w.d,w.o.keep (Up.refl _) λa ob U U=>k a ob⟩
 base:=z.I.base
 tabs q hq:=by
  have t:=z.I.tabs q hq;induction id t with|mk a=>exact t.keep (Up.refl _) (k _) (k _) a
 gens:=z.I.gens
 os:=z.I.os
section
variable{S:St}{A:Around}{n:Nat}{cf:CF}{z:Zh S}{c:Nat}{fI:Addr}(cj:pY S.P c fI){xs:List Value}{R:ab6->Shared->Prop}
def iA(p:PA)(R:ab6->Shared->Prop):ab6->Shared->Prop:=λr s'=>match r with
 | .ok (.ret v)=>v=.none/\R (.ok (.ret (.ref p.a))) s'
 | .ok _=>False
 | .error e=>R (.error e) s'
include cj
theorem yC(h: ∀p h',Keeps z.s.heap h'->dZ S.P z.y h' (.inst c []) p->(∀a,Pl true p a->z.y.W a=none)->
   codeAny S.M (uA A (dM c) xs) (.call (.ref fI) ⟨.ref p.a::xs,[]⟩) (iA p R) {z.s with heap:=h'}):codeAny S.M A (.call (.ref (dM c)) ⟨xs,[]⟩) R z.s:=by
 have Oq: ∀{a o},bq S.P a=some o->z.s.heap.get? a=some o:=λh=>z.I.own _ _ (aJ (z.I.base _ _ h));have no: ∀{a},z.s.heap.get? a=none->z.y.W a=none:=λ{a} e=>by
  cases q:z.y.W a with
  |none=>rfl
  |some x=>obtain ⟨o,w⟩:=z.I.live q;exact bw (e.symm.trans w)
 induction cj with|mk hi hfI hfc=>
 have hC:=Oq (lV S.P c);rw [Lr,IQ] at hC;have hF:=Oq hfI;generalize z.s=s at*;obtain ⟨hh,gens,d,t,os⟩:=s;refine codeAny_call_obj_init PySem.F.objNew hC ((tH S.P c).ns λU U=>Oq) hi hF hfc λh' x dx Mk=>?_;obtain ⟨ox,hx,hcx,Xj,hdx⟩:=Mk.inst;have Xk:=Mk.dict ox hx;rcases hdx with ⟨e,_⟩|⟨d',e1,e2,⟨od,es,ep,j1,j4,j5,j6,j7⟩,od2,j8,j2,j3⟩
 ·cases Xk.symm.trans e
 ·cases ag (Xk.symm.trans e1);cases ag (j1.symm.trans j8);refine wpAny_runValue (codeAny_mono (h ⟨x,dx⟩ h' Mk.keeps ⟨_,.mk hx hcx Xk Xj e2 (.mk j1 j2 j3 j4 j5 j6 j7),⟨mB,λU h=>(h rfl).elim⟩,trivial⟩ λa q=>?_) λr s' hr=>by
   induction r with
   |error e=>exact hr
   |ok f=>rcases f with _|_<;>exact hr)
  rcases q with rfl|⟨_,rfl⟩
  ·exact no Mk.newX
  ·exact no Mk.newD
end
section
variable{S:St}{z:Zh S}{R:ab6->Shared->Prop}{A:Around}{env:dq}{sc:abL}{p:PA}{j:Nat}(b:qY z.y)
include b
theorem B8{z3:Z (S.into A env sc)}(r:oK z3 a v)(w:lg z (ow j (.ok a z3.ρ z3.H)) R)(l:Le z.y z3.y)(hp:z3.y.φ (.obj j)=some p):iA p R (.ok (.ret (yy v))) z3.s:=by
 obtain ⟨I,b'⟩:=z3.leave;induction r with
 |next=>exact ⟨rfl,w.ok (.val (.ref j)) ⟨_,z3.H,z3.s,I⟩ (.ref p.a) rfl (z3.iz b l) b' ⟨p,hp,rfl⟩⟩
 |_=>exact w.fits.elim
theorem B9{z3:Z (S.into A env sc)}(r:oK z3 a v)(w:lg z (oz j (.ok a z3.ρ z3.H)) R)(l:Le z.y z3.y)(hp:dH z3 j (.ref p.a)):iA p R (.ok (.ret (yy v))) z3.s:=by
 obtain ⟨I,b'⟩:=z3.leave;induction r with
 |next=>exact lg.opt w λx e w=>⟨rfl,w.ok x ⟨_,z3.H,z3.s,I⟩ (.ref p.a) rfl (z3.iz b l) b' (Ao (r:=.slot j) hp e)⟩
 |_=>exact w.fits.elim
omit b in
theorem pZ{out:Out MP.Flow}{g:MP.Env->Hp->Res}(w:lg z (out.res (λf ρ H=>Dz (g ρ H) f) WT) R): ∃ρ H,out=.ok .next ρ H:=by
 induction out with
 |ok f ρ H=>rcases f with _|_<;>first|exact ⟨_,_,rfl⟩|exact w.fits.elim
 |_=>exact w.fits.elim
variable{z2:Z (S.into A env sc)}(l:Le z.y z2.y){out:Out MP.Flow}
include l
theorem Ca(hp:z2.y.φ (.obj j)=some p)(w:lg z (ow j out) R):Po false bz z2 out (λf s=>iA p R (.ok (.ret (yy f))) s) (λe s=>iA p R (.error e) s):=by
 refine ae λaA=>?_;obtain ⟨ρ,H,e⟩:=pZ w;refine aA ?_;exact ⟨e▸trivial,λa z3 v e A r=>B8 b r (e▸w) (l.trans A.toLe) (A.p _ _ hp),λk u z3 v e'=>by cases e.symm.trans e'⟩
theorem Cb(hp:dH z2 j (.ref p.a))(w:lg z (oz j out) R):Po true bz z2 out (λf s=>iA p R (.ok (.ret (yy f))) s) (λe s=>iA p R (.error e) s):=by
 refine ae λaA=>?_;obtain ⟨ρ,H,e⟩:=pZ w;refine aA ?_;exact ⟨e▸trivial,λa z3 v e A r=>B9 b r (e▸w) (l.trans A.toLe) (A.v rfl _ _ hp),λk u z3 v e'=>by cases e.symm.trans e'⟩
end
theorem vW{p:Nat}(h:aU l 0=some p):l=p::tl l:=by
 induction l with
 |nil=>exact bw h
 |cons a l=>cases ag (h);rfl
section
variable{S:St}{A:Around}{n:Nat}{cf:CF}{z:Zh S}{as:List Arg}{body:List ec}{sc:abL}{dflt:List V}(ok:pW as sc=true){p0:Nat}{l0:List Nat}(hps:bC sc (as.map (λU=>U.arg))=some (p0::l0)){vs:List V}{xs:List Value}(hv:aB z.y vs xs){R:ab6->Shared->Prop}{c:Nat}{fI:Addr}(cj:pY S.P c fI)(fn:Oo z.y fI as body sc dflt)(K: ∀x,oi S (uA A (dM c) x) n cf z.y)
include ok hps hv cj fn K
theorem qd(q:je l0.length vs dflt=some ws)(hk: ∀p cd env (z1:Z (S.into (uA A (dM c) cd) env sc)) ys,FE env sc->rE env sc->z1.ρ=eU sc.names.length->z1.H=z.H->Le z.y z1.y->gy S.P z1.y z1.s.heap (.inst c []) p->aB z1.y ws ys-> ∀(f:Str×Value->PUnit->Sem (ForInStep PUnit)),(∀n v u,f (n,v) u=(do acm env n v;pure (.yield ⟨⟩)))->
   wpAny S.M (uA A (dM c) cd).in1 (forIn ((as.map (λU=>U.arg)).zip (.ref p.a::ys)) ⟨⟩ f) (λU s2=>s2.heap.NoLimit/\codeAny S.M (uA A (dM c) cd) (.func body env) (iA p R) s2) (λe s'=>iA p R (.error e) s') z1.s):codeAny S.M A (.call (.ref (dM c)) ⟨xs,[]⟩) R z.s:=by
 refine ae λaA=>?_;obtain ⟨l1,l2,l3,l4⟩:=tZ q;have hl:l0.length+1=as.length:=(places_len hps).trans (df ..);obtain ⟨b1,b2,b3,b4⟩:=bnd l1 l2 l3;refine aA ?_;have b5:=b4;rw [hl,hv.len] at b1 b2 b5;rw [hl] at b3;refine yC cj λp h' hk1 hO hp=>?_;refine m6 (z:=⟨z.y,z.H,_,z.iR hk1⟩) (K _).dep (K _).frames fn ok (xs:=.ref p.a::xs) b1 b2 b3 λenv z1 ds F lm e1 e2 l hn k1 hds f hf=>?_;have e5:dflt.length+(dT p.a::xs).length-as.length=dflt.length+vs.length-l0.length:=b5.trans (by rw [hv.len]);rw [e5];refine hk p _ env z1 _ F lm e1 e2 l ⟨λa q=>?_,hO.keep l.toUp λa ob U U=>k1 a ob⟩ (by rw [l4];exact (hv.mono l.toUp).app ((hds.mono l.toUp).drop _)) f hf;cases e:z1.y.W a with
 |none=>rfl
 |some x=>obtain ⟨o,e',_⟩:=hO.pl q;cases e'.symm.trans (hn a (by rw [e];exact nofun) (hp a q))
end
section
variable{S:St}{A:Around}{n:Nat}{cf:CF}{z:Zh S}{as:List Arg}{body:List ec}{sc:abL}{dflt:List V}(ok:pW as sc=true){ps:List Nat}(hps:bC sc (as.map (λU=>U.arg))=some ps){ms:List fF}{vs:List V}{xs:List Value}(hv:aB z.y vs xs){R:ab6->Shared->Prop}{c:Nat}{fI:Addr}(cj:pY S.P c fI)(fn:Oo z.y fI as body sc dflt)(K: ∀x,oi S (uA A (dM c) x) n cf z.y)
include ok hps hv cj fn K
theorem Cc(hb:gU false sc false body ms)(w:lg z (iJ ⟨.heap c,0,ps,dflt,sc.names.length,ms⟩ cf vs z.H) R):codeAny S.M A (.call (.ref (dM c)) ⟨xs,[]⟩) R z.s:=lg.opt w λp0 e w=>lg.opt w λws q w=>by
 refine qd ok (hps.trans (congrArg some (vW e))) hv cj fn K q λp cd env z1 ys F lm e1 e2 l hO hy f hf=>?_;refine ae λaA=>?_;obtain ⟨y,I,A1,hφ⟩:=z1.share hO;refine aA ?_;refine Kl<|jL (z:=⟨y,_,_,_,I⟩) F hf (vs:=.ref z1.H.length::ws) hps ⟨_,_,rfl,⟨p,hφ,rfl⟩,hy.mono A1.toUp⟩ (λp U u hu=>by rw [e1,cZ] at hu;cases hu) λz2 d1 d2 d3=>?_;refine t8 (K cd) F lm hb (Ca (z:=z) (j:=z1.H.length) (K cd).bare (d1▸l.trans A1.toLe) (d1▸hφ) ?_);rw [d2,d3];show lg z (ow _ (br ms cf (jd z1.ρ _) (z1.H++_))) R;rw [e1,e2];exact w
theorem Cd(hb:gU true sc false body ms)(w:lg z (iJ ⟨.make c,0,ps,dflt,sc.names.length,ms⟩ cf vs z.H) R):codeAny S.M A (.call (.ref (dM c)) ⟨xs,[]⟩) R z.s:=lg.opt w λp0 e w=>lg.opt w λws q w=>by
 have hps:=hps.trans (congrArg some (vW e));refine qd ok hps hv cj fn K q λp cd env z1 ys F lm e1 e2 l hO hy f hf=>?_;induction as with
 |nil=>cases ag (hps)
 |cons a0 as=>
  refine gf hps λi l q1 q2 e'=>?_;rcases e' with _|_;rw [oC,aam,ij,hf];refine ae λaA=>?_;obtain ⟨k,hk,ho⟩:=cV q1;have emp: ∀j u,bh z1.ρ j≠ .fix u:=λj u h=>by rw [e1,cZ] at h;rcases h with _|_
  obtain ⟨y,d⟩:=Cl.make (x:=.own p0) hO.n;refine aA ?_;have l':=d.le (y:=z1.y) nofun
  refine wpAny_bind (wpAny_bind (Kl<|eF F hk ho (emp p0) (sl:=.own (.inst c [])) ⟨l',λU U h=>d.up h,λU U h=>(d.new h).imp id λq=>⟨q.1,q.2.2,(hO.o.pl q.2.1).imp λU h=>h.1⟩,λU h=>d.φ h,p,rfl,d.ob l'.toUp hO⟩ λh' t I hV U U=>wpAny_pure ?_));have hi:p0<z1.ρ.length:=by rw [z1.I.rl];exact dz hk
  have Zp:p0∉tl ps:=λhm=>by
   obtain ⟨n,hn,q⟩:=pX q2 hm;obtain ⟨k',hk',_⟩:=cV q;cases hk.symm.trans hk';have nd:=iq.mp (m5 (n9 (n9 ok).2).2);exact nd.1 hn
  refine Kl<|jL (z:=⟨y,_,_,_,I⟩) F hf (vs:=ws) q2 (hy.mono l'.toUp) (λp hp u hu=>?_) λz2 d1 d2 d3=>?_
  ·rw [bD λ(e:p=p0)=>Zp (e▸hp)] at hu;exact emp p u hu
  ·have g:bh z2.ρ p0=.own (.inst c []):=by rw [d2];exact (B6 Zp).trans (bu hi)
   refine ae λb8=>?_;obtain ⟨p',h1,h2⟩:=z2.own (i:=p0) (by rw [g];rfl);refine b8 ?_;rw [d1,d.f] at h1;rcases h1 with _|_;refine t8 (K cd) F lm hb (Cb (z:=z) (K cd).bare (d1▸l.trans l') ⟨_,h2⟩ ?_);rw [d2,d3];show lg z (oz _ (br ms cf (jd (put z1.ρ _ _) _) z1.H)) R;rw [e1,e2];exact w
end
noncomputable def qe:List String:=["enumerate","zip","dict_itemiterator","dict_reverseitemiterator","odict_iterator","itertools.zip_longest","itertools.pairwise"]
theorem vX(ho:s.heap.get? it=some o)(hc:o.cls=.type n)(hn:qe.contains n=false){Q:Unit->Shared->Prop}(h:Q () s):
  ax (abJ prog w) A (acu t (.ref it) x) Q E s:=by
 have go:ax (abJ prog w) A (match (dT it,x) with
  |(.ref r,.ref a)=>do
   let o <-load r
   match o.cls,o.data with
   | .type n,.fields vs=>if qe.contains n&&vs[0]?==some (aco a) then (do rule "for.unpacks-the-owned-tuple";updateField r 0 .none) else pure ()
   |_,_=>pure ()
  |_=>pure ()) Q E s:=by
  induction x with
  |ref a=>
   refine (ve ho ?_);rw [hc];induction o.data with
   |fields vs=>
    show ax _ _ (if (qe.contains n&&vs[0]?==some (aco a))=true then _ else _) Q E s;rw [hn];exact cp h
   |_=>exact cp h
  |_=>exact cp h
 cases t with
 |Tuple es k p=>exact go
 |List es p=>exact go
 |_=>exact cp h
theorem aB.end(h:aB y l xs)(e:MP.aU l n=none):xs[n]?=none:=by
 induction l generalizing xs n with
 |nil=>rcases h with _|_;rfl
 |cons a l ih=>
  obtain ⟨x,r,e1,_,h'⟩:=h;subst e1;induction n with
  |zero=>exact bw e.symm
  |succ n=>exact ih (n:=n) h' e
inductive yD(it:Addr)(h:Heap)(P:Heap->Prop):Prop
 |mk {o n}:h.get? it=some o->o.cls=.type n->qe.contains n=false->n≠"frame"->(∀h',h'.get? it=some o->P h')->yD it h P
theorem yD.of(w: ∃o,h.get? it=some o/\o.cls=.type c/\o.data=d)(hn:qe.contains c=false)(hf:c≠"frame"):yD it h λh=> ∃o,h.get? it=some o/\o.cls=.type c/\o.data=d:=by
 refine ae λaA=>?_;obtain ⟨o,a,b⟩:=w;refine aA ?_;exact .mk a b.1 hn hf λh' e=>⟨o,e,b⟩
theorem yE{b it:Addr}(h:b∉[it]):b≠it:=λe=>h (e▸bj)
section
variable{S:St}{A:Around}{y0:Wd}{it:Addr}{src:Src}{St:Nat->Heap->Prop}
theorem vY(hs: ∀k h,St k h->yD it h (St k))
  (item: ∀y ρ H s (k:Nat) (v:V) (Q:Option Value->Shared->Prop) (E:Value->Shared->Prop),InvH S y ρ H s->Up y0 y->St k s.heap->gK src k H=some (some v)->(∀x h' tk,az y v x->St (k+1) h'->eC it s.heap h'->Q (some x) {s with heap:=h',toks:=tk})->wpAny S.M A (acT (.ref it)) Q E s)
  (done: ∀y ρ H s (k:Nat) (Q:Option Value->Shared->Prop) (E:Value->Shared->Prop),InvH S y ρ H s->Up y0 y->St k s.heap->gK src k H=some none->(∀h',eC it s.heap h'->Q none {s with heap:=h'})->wpAny S.M A (acT (.ref it)) Q E s)
  (self: ∀(k:Nat) (s:Shared) (Q:Value->Shared->Prop) (E:Value->Shared->Prop),St k s.heap->Q (.ref it) s->wpAny S.M A (adq (.ref it)) Q E s):cY S A y0 false it [it] src St (λk U h=>St (k+1) h) where
 live k h st b hb:=by
  cases dC.mp hb;induction hs k h st with|mk a b _ d=>exact ⟨_,a,BA b d⟩
 frame k h h' st hk:=by induction hs _ h st with|mk a b _ _ e=>exact e h' (hk it bj _ a)
 keep k h h' st hk:=by induction hs _ h st with|mk a b _ _ e=>exact e h' (hk it _ a)
 item y ρ H s k v Q E I u hF st hv hQ:=item y ρ H s k v Q E I u st hv λx h' tk hx hst kk=>
  have k': ∀b,b≠it->Hk s.heap h' b:=λb n o e=>kk b o n e
  hQ x y h' tk ⟨λa x e=>⟨e,k' a (Wd.ne (hF it bj) e)⟩,λU U e=>.inl e,rfl⟩ hx hst λb n=>k' b (yE n)
 go t k x s Q E _ hm hQ:=by induction hs _ _ hm with|mk a b c=>exact Kl<|vX a b c (hQ s.heap hm λU U U e=>e)
 done y ρ H s k Q E I u st hv hQ:=done y ρ H s k Q E I u st hv λh' kk=>hQ h' s.toks λb n o e=>kk b o (yE n) e
 self:=self
variable(hh:A.handled=none)
include hh
theorem Ce(hl:y0.J l=some o)(hc:o.cls=.type "list")(hd:o.data=.seq items ep){vs:List V}(hv:aB y0 vs items.toList)(it:Addr):cY S A y0 false it [it] (.vals vs) (λk h=>h.IsListIter it l k) (λk U h=>h.IsListIter it l (k+1)):=by
 have hL: ∀{y ρ H s},InvH S y ρ H s->Up y0 y->s.heap.IsList l items:=λI u=>⟨o,I.own _ _ (aJ (u.j _ _ hl)),hc,ep,hd⟩;refine vY (λk h st=>yD.of (c:="list_iterator") st (by decide) (by decide)) (λy ρ H s k v Q E I u st hs hQ=>?_) (λy ρ H s k Q E I u st hs hQ=>?_) λk s Q E st h=>Kl<|adQ st h
 ·obtain ⟨x,hx,hr⟩:=(hv.mono u).aU (ag hs);exact Kl<|adK st (hL I u) (x:=x) (by simpa using hx) λh' st' hs'=>hQ x h' s.toks hr st' hs'.extBut
 ·exact Kl<|adR hh st (hL I u) (by simpa using hv.end (ag hs)) hQ
theorem iter_tuple(hl:y0.J l=some o)(hc:o.cls=.type "tuple")(hd:o.data=.seq items ep){vs:List V}(hv:aB y0 vs items.toList)(it:Addr):cY S A y0 false it [it] (.vals vs) (λk h=>h.IsTupleIter it l k) (λk U h=>h.IsTupleIter it l (k+1)):=by
 have hL: ∀{y ρ H s},InvH S y ρ H s->Up y0 y->s.heap.IsTuple l items:=λI u=>⟨o,I.own _ _ (aJ (u.j _ _ hl)),hc,ep,hd⟩;refine vY (λk h st=>yD.of (c:="tuple_iterator") st (by decide) (by decide)) (λy ρ H s k v Q E I u st hs hQ=>?_) (λy ρ H s k Q E I u st hs hQ=>?_) λk s Q E st h=>Kl<|wpAny_pyIter_tupleiter st h
 ·obtain ⟨x,hx,hr⟩:=(hv.mono u).aU (ag hs);exact Kl<|wpAny_pyNext_tuple_item st (hL I u) (x:=x) (by simpa using hx) λh' st' hs'=>hQ x h' s.toks hr st' hs'.extBut
 ·exact Kl<|wpAny_pyNext_tuple_end hh st (hL I u) (by simpa using hv.end (ag hs)) hQ
theorem Cf(hi:y0.φ (.obj i)=some p)(it:Addr):cY S A y0 false it [it] (.heap i) (λk h=>h.IsListIter it p.a k) (λk U h=>h.IsListIter it p.a (k+1)):=by
 have at': ∀{H k r} {G:Prop},gK (.heap i) k H=some r->(∀vs,aU H i=some (.list vs)->aU vs k=r->G)->G:=λhs g=>aQ hs λvs h e=>aQ h λo q h=>g vs (q.trans (congrArg some (iw h))) (ag e);have ob: ∀{y ρ H s vs},InvH S y ρ H s->Up y0 y->aU H i=some (.list vs)-> ∃xs,s.heap.IsList p.a xs/\aB y vs xs.toList:=λ{y ρ H s vs} I u e=>by
  obtain ⟨q,w⟩:=I.obs (.obj i) _ e;cases ag (w.f.symm.trans (u.p _ _ hi));obtain ⟨xs,ep,h1,h2⟩:=w.o;exact ⟨xs,⟨_,h1,rfl,ep,rfl⟩,h2⟩
 refine vY (λk h st=>yD.of (c:="list_iterator") st (by decide) (by decide)) (λy ρ H s k v Q E I u st hs hQ=>?_) (λy ρ H s k Q E I u st hs hQ=>?_) λk s Q E st h=>Kl<|adQ st h
 ·refine at' hs λvs e hv=>?_;refine ae λaA=>?_;obtain ⟨xs,hL,h2⟩:=ob I u e;obtain ⟨x,hx,hr⟩:=h2.aU hv;refine aA ?_;exact Kl<|adK st hL (x:=x) (by simpa using hx) λh' st' hs'=>hQ x h' s.toks hr st' hs'.extBut
 ·refine at' hs λvs e hv=>?_;refine ae λb8=>?_;obtain ⟨xs,hL,h2⟩:=ob I u e;refine b8 ?_;exact Kl<|adR hh st hL (by simpa using h2.end hv) hQ
omit hh in
theorem rU{b:List UInt8}:aU (b.map ki |>.map λ(n:Nat)=>V.int n) k=b[k]?.map λc=>.int (c.toNat:Int):=by rw [cL,rh,rh,Option.map_map];rfl
theorem yF(b:Array UInt8)(t:Tok)(it:Addr):cY S A y0 false it [it] (.vals (b.toList.map ki |>.map λ(n:Nat)=>V.int n)) (λk h=>aa6 h it b t k) (λk U h=>aa6 h it b t (k+1)):=by
 refine vY (λk h st=>yD.of (c:="bytes_iterator") st (by decide) (by decide)) (λy ρ H s k v Q E I u st hs hQ=>?_) (λy ρ H s k Q E I u st hs hQ=>?_) λk s Q E st h=>Kl<|KBw.pyIter_self st h
 ·obtain ⟨c,h1,h2⟩:=eR.mp (rU.symm.trans (ag hs));subst h2;exact Kl<|KBw.next_item st (by simpa using h1) λh' st' hs'=>hQ _ h' (s.toks+1) ⟨_,rfl⟩ st' hs'.extBut
 ·exact Kl<|KBw.next_end hh st (by simpa using Bn.mp (rU.symm.trans (ag hs))) hQ
omit hh in
theorem EF(h:aT a b=false):b<=a:=aaU λq=>by rw [show aT a b=true from Tx q] at h;cases h
omit hh in
theorem EG:aU (kJ n a) k=cond (aT k n) (some (.int (a+k))) none:=by
 induction n generalizing a k with
 |zero=>rcases k with _|_<;>rfl
 |succ n ih=>induction k with
  |zero=>show some (V.int a)=some (V.int (a+0));rw [aak]
  |succ k=>rw [show aU (kJ (n+1) a) (k+1)=aU (kJ n (a+1)) k from rfl,ih,show a+1+(k:Int)=a+((k+1:Nat):Int) by rw [FX,Int.add_right_comm,YP];rfl];rfl
theorem yG(n:Nat)(a:Int)(it:Addr):cY S A y0 false it [it] (.vals (kJ n a)) (λk h=>IsRangeIter h it (a+k) ((n:Int)-k) 1) (λk U h=>IsRangeIter h it (a+(k+1:Nat)) ((n:Int)-(k+1:Nat)) 1):=by
 refine vY (λk h st=>.mk st rfl (by decide) (by decide) λU h=>h) (λy ρ H s k v Q E I u st hs hQ=>?_) (λy ρ H s k Q E I u st hs hQ=>?_) λk s Q E st h=>Kl<|wpAny_pyIter_rangeiter st h
 ·obtain ⟨h1,h2⟩:=rI (a:=aT k n) (EG.symm.trans (ag hs));cases h2;refine Kl<|wpAny_pyNext_range_item st (Int.sub_pos_of_lt (js.mpr (aZ h1))) λh' st' hs'=>hQ _ h' (s.toks+1) ⟨_,rfl⟩ ?_ hs'.extBut;rw [FX, <-YP, <-Int.sub_sub];exact st'
 ·refine Kl<|wpAny_pyNext_range_end hh st ?_ hQ;have h:=EG.symm.trans (ag hs);cases q:aT k n with
  |true=>rw [q] at h;cases h
  |false=>exact Xt (kV.mpr (EF q))
theorem Cg:cY S A y0 false it [it] (.vals []) (λk h=>k=0/\h.IsKeyIter it d 0 0 ep/\h.DictAt (ed PT S.w) d [] ep) (λU U U=>False) where
 live k h st b hb:=by
  cases dC.mp hb;refine ae λaA=>?_;obtain ⟨_,⟨o,ho,hc,_⟩,_⟩:=st;refine aA ?_;exact ⟨o,ho,BA hc (by decide)⟩
 frame k h h' st hk:=by cases st.1
 keep k h h' st hk:=⟨st.1,st.2.1.imp λo r=>⟨hk _ _ r.1,r.2⟩,st.2.2.keep hk⟩
 item y ρ H s k v Q E I u hF st hs hQ:=by cases hs
 go t k x s Q E _ hm hQ:=hm.elim
 done y ρ H s k Q E I u st hs hQ:=Kl<|wpAny_pyNext_dict_end (kvs:=[]) (i:=0) hh st.2.1 st.2.2 rfl λh' hs'=>hQ h' s.toks λb hb o ho=>hs' b o (yE hb) ho
 self k s Q E st h:=Kl<|wpAny_pyIter_keyiter st.2.1 h
end
end MP
end Mine.Lake
end
section
namespace Mine.Lake
namespace MP
open PySem PySem.W PyProof.Rows
section
variable{prog:Program}{w:abR}{A:Around}{E:Value->Shared->Prop}{s:Shared}
theorem yH(hit:s.heap.IsTupleIter it l i)(hl:s.heap.IsTuple l items)(hx:items[i]?=some x)
  (hQ: ∀h',h'.IsTupleIter it l (i+1)->gd it s.heap h'->Q x {s with heap:=h'}):ax (abJ prog w) A (kz (.ref it)) Q E s:=by
 refine ae λaA=>?_;obtain ⟨o,ho,hc,hd⟩:=id hit;obtain ⟨ol,RY,_,nl,hdl⟩:=hl;refine aA ?_;unfold kz;refine bc (uk (name:=ei "__next__") hit.typeIs my
  (ub my hit.typeIs Bz ?_ (zr _)))
 show ax _ _ (field (.ref it) 0>>=_) _ _ s;refine (dj ho hd (x:=.ref l) rfl ?_);show ax _ _ (if (dT l==rk)=true then _ else _) _ _ s;rw [if_neg (show ¬((dT l==rk)=true) from hH)];show ax _ _ (field (.ref it) 1>>=_) _ _ s;refine (dj ho hd (x:=.int i 0) rfl ?_);show ax _ _ (ac0 (.ref l)>>=_) _ _ s;refine (sL RY hdl ?_);simp only [zt,hx];refine bc (acB ho hd (by simp) (cp ⟨x,rfl,cp (hQ _ ?_ (lk ..))⟩));exact ⟨_,ew _ ho (Fs (qr hd _)),(Kj ..).trans hc,by
  (rewrite [qr hd];try with_reducible rfl);simp [aco]⟩
theorem Ci(hh:A.handled=none)(hit:s.heap.IsTupleIter it l i)(hl:s.heap.IsTuple l items)(hx:items[i]?=none)
  (hE: ∀h' e,eC it s.heap h'->(∃o,h'.get? e=some o/\o.cls=.type "StopIteration")->E (.ref e) {s with heap:=h'}):ax (abJ prog w) A (kz (.ref it)) Q E s:=by
 refine ae λaA=>?_;obtain ⟨o,ho,hc,hd⟩:=id hit;obtain ⟨ol,RY,_,nl,hdl⟩:=hl;refine aA ?_;unfold kz;refine bc (uk (name:=ei "__next__") hit.typeIs my
  (ub my hit.typeIs Bz ?_ (zr _)))
 show ax _ _ (field (.ref it) 0>>=_) _ _ s;refine (dj ho hd (x:=.ref l) rfl ?_);show ax _ _ (if (dT l==rk)=true then _ else _) _ _ s;rw [if_neg (show ¬((dT l==rk)=true) from hH)];show ax _ _ (field (.ref it) 1>>=_) _ _ s;refine (dj ho hd (x:=.int i 0) rfl ?_);show ax _ _ (ac0 (.ref l)>>=_) _ _ s;refine (sL RY hdl ?_);simp only [zt,hx];refine (zP (bc (acB ho hd (by simp) ?_)));show ax _ _ (newExc (.type "StopIteration") []>>=_) _ _ _;refine bc ?_;simp only [newExc,newTuple];refine bc (ack ?_ (by size_fits));refine bc (m:=firstArgMember _ _) (y7 (a:=rk) (by first|rfl|(simp only [firstArgMember];rfl)) ?_);refine ack ?_ (by size_fits);refine bc (wpAny_handled ?_)
 first|rw [show A.in1.handled=none from hh]|rw [hh]
 refine (rm (PySem.wpAny_throw ?_));exact hE _ _ (((lk ..).extBut.push _).push _) ⟨_,da _ rfl,rfl⟩
end
theorem Ot(hh:A.handled=none)(it l:Addr)(hne:l≠it)(items:Array Value):
  adV prog w A it [it,l] items.size (λi v=>items[i]?=some v) (λi h=>h.IsTupleIter it l i/\h.IsTuple l items) where
 live:=λU U st=>let ⟨o,ho,_⟩:=st.1;⟨o,ho⟩
 frame:=λU U U st hk=>⟨(let ⟨o,ho,r⟩:=st.1;⟨o,hk it (by simp) o ho,r⟩),(let ⟨o,ho,r⟩:=st.2;⟨o,hk l (by simp) o ho,r⟩)⟩
 item:=λi s Q E hi st hQ=>by
  refine yH st.1 st.2 (x:=items[i]) (by simp [hi]) λh' Xl hs'=>?_;exact hQ _ h' s.toks (by simp [hi]) ⟨Xl,st.2.extBut hs'.extBut hne⟩ hs'
 done:=λs Q E st hE=>Ci hh st.1 st.2 (by simp) hE
structure t9(z TI TO i1 i2:Addr):Prop where
 a1:TI≠z
 a2:TO≠z
 a3:i1≠z
 a4:i2≠z
 a5:TI≠TO
 a6:TI≠i1
 a7:TI≠i2
 a8:TO≠i1
 a9:TO≠i2
 Vn:i1≠i2
section
variable{prog:Program}{w:abR}{A:Around}{E:Value->Shared->Prop}{s:Shared}{z TI TO i1 i2:Addr}{LA EH:List Addr}{n1 n2 k1 k2:Nat}{P1 P2:Nat->Value->Prop}{Ou Ov:Nat->Heap->Prop}{a b:Value}
theorem cT{St:Nat->Heap->Prop}(D:adV prog w A it fp n P St)(hc:c∉fp)(x:St k h)(hs:eC c h h'):St k h':=
 D.frame _ _ _ x λb hb o ho=>hs b o (λe=>hc (e▸hb)) ho
theorem EI(hz:acL h z TI TO x)(he:h.get? e=some oe)(hc:oe.cls=.type "StopIteration"):e≠z:=λq=>by
 subst q;exact absurd ((congrArg Obj.cls (ag (hz.symm.trans he))).trans hc) (show ¬(FV "zip"=FV "StopIteration") from by decide)
theorem Cj(P5:t9 z TI TO i1 i2)(D1:adV prog w A i1 LA n1 P1 Ou)(D2:adV prog w A i2 EH n2 P2 Ov)(f1:z∉LA/\TO∉LA/\i2∉LA)(f2:z∉EH/\TO∉EH/\i1∉EH)
  (hz:acL s.heap z TI TO .none) (hTI:acg s.heap TI (.ref i1) (.ref i2)) (hTO:acg s.heap TO a b) (h1:Ou k1 s.heap) (h2:Ov k2 s.heap) (l1:k1<=n1) (l2:k2<=n2) 
  (hQ:k1<n1->k2<n2-> ∀x y h' tk,P1 k1 x->P2 k2 y->acL h' z TI TO (aco s.heap.objs.size)->acg h' TO x y->Ou (k1+1) h'->Ov (k2+1) h'->acg h' s.heap.objs.size x y->
   (∀c o,c≠z->c≠TO->c≠i1->c≠i2->s.heap.get? c=some o->h'.get? c=some o)->Q (.ref s.heap.objs.size) {s with heap:=h',toks:=tk})
  (hE:k1=n1\/k2=n2-> ∀h' e tk,(∀c o,c≠z->c≠TO->c≠i1->c≠i2->s.heap.get? c=some o->h'.get? c=some o)->(∃o,h'.get? e=some o/\o.cls=.type "StopIteration")->E (.ref e) {s with heap:=h',toks:=tk}):
  ax (abJ prog w) A (Builtin.«zip.__next__» ⟨[.ref z],[]⟩) (λfin s'=> ∃v,fin=.done (.ret v)/\Q v s') E s:=by
 obtain ⟨hp,g,d,tk0,os⟩:=s;show ax _ _ (field (.ref z) 2>>=_) _ _ _;refine (dj hz rfl (x:=.bool false) rfl ?_);show ax _ _ (field (.ref z) 3>>=_) _ _ _;refine (dj hz rfl (x:=.ref TI) rfl ?_);refine (sL hTI rfl ?_);show ax _ _ (yn (.ref z)>>=_) _ _ _;refine bc ?_;unfold yn;refine (dj hz rfl (x:=.none) rfl (cp ?_));refine ac6 rfl ?_;refine (zP ?_);refine (dj hz rfl (x:=.ref TO) rfl ?_);refine bc (acw hz (by simp) λh₁ vZ hs₁=>?_);replace vZ:acL h₁ z TI TO .ellipsis:=vZ;replace hs₁:gd z hp h₁:=hs₁;refine bc ?_;refine bc (bc (wt ?_));show ax _ _ (kz (.ref i1)>>=_) _ _ _;rcases aao l1 with l1|l1
 ·subst l1;refine bc (D1.done _ _ _ (cT D1 f1.1 h1 hs₁.extBut) λh₂ e hs₂ he=>?_);replace hs₂:eC i1 h₁ h₂:=hs₂;obtain ⟨oe,Sf,hce⟩:=he;have LB:acL h₂ z TI TO .ellipsis:=hs₂ _ _ P5.a3.symm vZ;have Xm:=EI LB Sf hce;exact acw LB (by simp) λh₃ U gZ=>hE (.inl rfl) h₃ e tk0 (λc o c1 U c3 U x=>gZ.extBut _ _ c1 (hs₂ _ _ c3 (hs₁.extBut _ _ c1 x))) ⟨oe,gZ.extBut _ _ Xm Sf,hce⟩
 refine bc (D1.item k1 _ _ _ l1 (cT D1 f1.1 h1 hs₁.extBut) λx h₂ tk hx Sg hs₂=>cp ?_);replace hs₂:gd i1 h₁ h₂:=hs₂;have EJ:acg h₂ TO a b:=hs₂.extBut _ _ P5.a8 (hs₁.extBut _ _ P5.a2 hTO);refine (sL EJ rfl ?_);refine bc (adW EJ λh₃ yI gZ=>?_);replace yI:acg h₃ TO x b:=yI;replace gZ:gd TO h₂ h₃:=gZ;refine (Ra (cp ?_));refine bc (bc (wt ?_));show ax _ _ (kz (.ref i2)>>=_) _ _ _;rcases aao l2 with l2|l2
 ·subst l2;refine bc (D2.done _ _ _ (cT D2 f2.2.1 (cT D2 f2.2.2 (cT D2 f2.1 h2 hs₁.extBut) hs₂.extBut) gZ.extBut) λh₄ e iM he=>?_);replace iM:eC i2 h₃ h₄:=iM;obtain ⟨oe,Sf,hce⟩:=he;have LC:acL h₄ z TI TO .ellipsis:=iM _ _ P5.a4.symm (gZ.extBut _ _ P5.a2.symm (hs₂.extBut _ _ P5.a3.symm vZ));have Xm:=EI LC Sf hce;exact acw LC (by simp) λh₅ U kq=>hE (.inr rfl) h₅ e tk (λc o c1 c2 c3 c4 x=>kq.extBut _ _ c1 (iM _ _ c4 (gZ.extBut _ _ c2 (hs₂.extBut _ _ c3 (hs₁.extBut _ _ c1 x))))) ⟨oe,kq.extBut _ _ Xm Sf,hce⟩
 refine bc (D2.item k2 _ _ _ l2 (cT D2 f2.2.1 (cT D2 f2.2.2 (cT D2 f2.1 h2 hs₁.extBut) hs₂.extBut) gZ.extBut) λy h₄ tk' hy Sh iM=>cp ?_);replace iM:gd i2 h₃ h₄:=iM;have EK:acg h₄ TO x b:=iM.extBut _ _ P5.a9 yI;refine (sL EK rfl ?_);refine bc (adW EK λh₅ ua kq=>?_);replace ua:acg h₅ TO x y:=ua;replace kq:gd TO h₄ h₅:=kq;refine (Ra (cp (cp ?_)));refine (sL ua rfl ?_);refine bc (wpAny_newTuple ?_);have hsz:h₅.objs.size=hp.objs.size:=kq.1.trans (iM.1.trans (gZ.1.trans (hs₂.1.trans hs₁.1)));have LD:acL h₅ z TI TO .ellipsis:=kq.extBut _ _ P5.a2.symm (iM.extBut _ _ P5.a4.symm (gZ.extBut _ _ P5.a2.symm (hs₂.extBut _ _ P5.a3.symm vZ)));have Si: ∀c o,c≠z->c≠TO->c≠i1->c≠i2->hp.get? c=some o->h₅.get? c=some o:=λc o c1 c2 c3 c4 e=>
  kq.extBut _ _ c2 (iM.extBut _ _ c4 (gZ.extBut _ _ c2 (hs₂.extBut _ _ c3 (hs₁.extBut _ _ c1 e))))
 have Sj:Ou (k1+1) h₅:=cT D1 f1.2.1 (cT D1 f1.2.2 (cT D1 f1.2.1 Sg gZ.extBut) iM.extBut) kq.extBut;have Sk:Ov (k2+1) h₅:=cT D2 f2.2.1 Sh kq.extBut;have Sl:z<h₅.objs.size:=ik LD;show ax _ _ (xp (.ref z) (.ref h₅.objs.size)>>=_) _ _ _;refine bc ?_;unfold xp;have Sm:acL (h₅.push {cls:=.type "tuple",data:=.seq #[x,y]}) z TI TO .ellipsis:=cn _ LD;refine bc (acw Sm (by simp) λXn EL LF=>?_);replace EL:acL Xn z TI TO (aco h₅.objs.size):=EL;refine acw EL (by simp) λJE Ar LG=>?_;replace Ar:acL JE z TI TO (aco h₅.objs.size):=Ar;have up: ∀c o,c≠z->h₅.get? c=some o->JE.get? c=some o:=λc o c1 e=>LG.extBut _ _ c1 (LF.extBut _ _ c1 (cn _ e));have LI:acg JE h₅.objs.size x y:=LG.extBut _ _ (vl Sl) (LF.extBut _ _ (vl Sl) (da _ rfl));rw [hsz] at Ar LI;refine cp ⟨_,rfl,?_⟩;show Q (.ref h₅.objs.size) _;rw [hsz];exact hQ l1 l2 x y JE tk' hx hy Ar (up _ _ P5.a2 ua) (D1.frame _ _ _ Sj λb hb o e=>up _ o (λq=>f1.1 (q▸hb)) e) (D2.frame _ _ _ Sk λb hb o e=>up _ o (λq=>f2.1 (q▸hb)) e) LI λc o c1 c2 c3 c4 e=>up c o c1 (Si c o c1 c2 c3 c4 e)
theorem v5(P5:t9 z TI TO i1 i2)(D1:adV prog w A.in1 i1 LA n1 P1 Ou)(D2:adV prog w A.in1 i2 EH n2 P2 Ov)(f1:z∉LA/\TO∉LA/\i2∉LA)(f2:z∉EH/\TO∉EH/\i1∉EH)
  (hz:acL s.heap z TI TO .none) (hTI:acg s.heap TI (.ref i1) (.ref i2)) (hTO:acg s.heap TO a b) (h1:Ou k1 s.heap) (h2:Ov k2 s.heap) (l1:k1<=n1) (l2:k2<=n2) {Q:Option Value->Shared->Prop}
  (hQ:k1<n1->k2<n2-> ∀x y h' tk,P1 k1 x->P2 k2 y->acL h' z TI TO (aco s.heap.objs.size)->acg h' TO x y->Ou (k1+1) h'->Ov (k2+1) h'->acg h' s.heap.objs.size x y->
   (∀c o,c≠z->c≠TO->c≠i1->c≠i2->s.heap.get? c=some o->h'.get? c=some o)->Q (some (.ref s.heap.objs.size)) {s with heap:=h',toks:=tk})
  (hN:k1=n1\/k2=n2-> ∀h' tk,(∀c o,c≠z->c≠TO->c≠i1->c≠i2->s.heap.get? c=some o->h'.get? c=some o)->Q none {s with heap:=h',toks:=tk}):
  wpAny (abJ prog w) A (acT (.ref z)) Q E s:=by
 have hT:s.TypeIs (.ref z) "zip":=⟨_,hz,rfl⟩;unfold acT;refine wpAny_bind (wpAny_attempt (wpAny_callSpecial?_slot (name:=ei "__next__") hT TB
  (wpAny_call_entry TB hT PySem.F.entry_zip_next
   (Kl<|Cj P5 D1 D2 f1 f2 hz hTI hTO h1 h2 l1 l2 (λg1 g2 x y h' tk e1 e2 b1 b2 b3 b4 b5 b6=>wpAny_pure (hQ g1 g2 x y h' tk e1 e2 b1 b2 b3 b4 b5 b6)) λg h' e tk hk he=>?_) (PySem.F.args_zip_next_1 _))))
 refine ae λaA=>?_;obtain ⟨o,ho,hc⟩:=he;refine aA ?_;exact wpAny_bind (Kl<|acI (T:="StopIteration") (b:=true) ⟨o,ho,hc⟩ isSubtype_stop (wpAny_pure (hN g h' tk hk)))
end
noncomputable abbrev Vo(h:Heap)(l1:Addr):Heap:=h.push {cls:=.type "tuple_iterator",data:=.fields #[.ref l1,.int 0 0]}
abbrev Vp(h:Heap)(l1 l2:Addr):Heap:=(Vo h l1).push {cls:=.type "list_iterator",data:=.fields #[.ref l2,.int 0 0]}
abbrev Vq(h:Heap)(l1 l2:Addr):Heap:=(Vp h l1 l2).push {cls:=.type "tuple",data:=.seq #[.ref h.objs.size,.ref (Vo h l1).objs.size]}
abbrev Vr(h:Heap)(l1 l2:Addr):Heap:=(Vq h l1 l2).push {cls:=.type "tuple",data:=.seq #[.none,.none]}
abbrev QE(h:Heap)(l1 l2:Addr):Heap:=(Vr h l1 l2).push {cls:=.type "zip",data:=.fields #[.none,.bool false,.bool false,.ref (Vp h l1 l2).objs.size,.ref (Vq h l1 l2).objs.size]}
theorem qf(l1 l2:Addr)(xs ys:Array Value):
  Meets (Builtin.«zip.__new__» ⟨[.type "zip",.ref l1,.ref l2],[]⟩) (λU R s=>s.heap.IsTuple l1 xs/\s.heap.IsList l2 ys/\
   R (.ok (.ret (.ref (Vr s.heap l1 l2).objs.size))) {s with heap:=QE s.heap l1 l2}):=
 .of_wp λprog w A R s h=>by
  obtain ⟨hp,g,d,tk,os⟩:=s;obtain ⟨hl1,hl2,h⟩:=h;have hsub:=sub_zip;have Vt:Heap.IsTuple (abG ⟨hp,g,d,tk,os⟩) l1 xs:=hl1;have hL2:Heap.IsList (abG ⟨hp.push {cls:=.type "tuple_iterator",data:=.fields #[.ref l1,.int 0 0]},g,d,tk,os⟩) l2 ys:=aaR hl2 _
  wp_walk using ad3 Vt,adj hL2
  exact ⟨_,rfl,h⟩
section
variable{prog:Program}{w:abR}{A:Around}{E:Value->Shared->Prop}{s:Shared}
theorem Cm(hl1:s.heap.IsTuple l1 xs)(hl2:s.heap.IsList l2 ys)
  (h: ∀h',acL h' (s.heap.objs.size+4) (s.heap.objs.size+2) (s.heap.objs.size+3) .none->acg h' (s.heap.objs.size+2) (.ref s.heap.objs.size) (.ref (s.heap.objs.size+1))->
   acg h' (s.heap.objs.size+3) .none .none->h'.IsTupleIter s.heap.objs.size l1 0->h'.IsListIter (s.heap.objs.size+1) l2 0->Keeps s.heap h'->Q (.ref (s.heap.objs.size+4)) {s with heap:=h'}):
  ax (abJ prog w) A (call (.type "zip") [.ref l1,.ref l2]) Q E s:=by
 refine callType_new PySem.F.called_zip (by decide) (PySem.F.typeCall_zip_2 _ _) (PySem.F.newCall_zip_2 _ _) (λobj=>PySem.F.args_object_init_3 obj _ _) PySem.F.entry_zip_new
  (qf l1 l2 xs ys) ⟨hl1,hl2,?_⟩
 have z1:(Vo s.heap l1).objs.size=s.heap.objs.size+1:=ip ..;have z2:(Vp s.heap l1 l2).objs.size=s.heap.objs.size+2:=by rw [ip,z1]
 have z3:(Vq s.heap l1 l2).objs.size=s.heap.objs.size+3:=by rw [ip,z2]
 have z4:(Vr s.heap l1 l2).objs.size=s.heap.objs.size+4:=by rw [ip,z3]
 have g5:(QE s.heap l1 l2).get? (Vr s.heap l1 l2).objs.size=some _:=da _ rfl;have g4:(QE s.heap l1 l2).get? (Vq s.heap l1 l2).objs.size=some _:=cn _ (da _ rfl);have g3:(QE s.heap l1 l2).get? (Vp s.heap l1 l2).objs.size=some _:=cn _ (cn _ (da _ rfl));have g2:(QE s.heap l1 l2).get? (Vo s.heap l1).objs.size=some _:=cn _ (cn _ (cn _ (da _ rfl)));have g1:(QE s.heap l1 l2).get? s.heap.objs.size=some _:=cn _ (cn _ (cn _ (cn _ (da _ rfl))));show _/\_;rw [z2,z3,z4] at g5;rw [z1,z2] at g3;rw [z3] at g4;rw [z1] at g2;rw [z4];exact ⟨⟨_,g5,rfl⟩,h _ g5 g3 g4 ⟨_,g1,rfl,rfl⟩ ⟨_,g2,rfl,rfl⟩ λc o x=>
  cn _ (cn _ (cn _ (cn _ (cn _ x))))⟩
end
end MP
end Mine.Lake
end
section
namespace Mine.Lake
namespace MP
open PySem PySem.W PyProof.Rows
section
variable{C:Cx}{z:Z C}
theorem Ox: ∀b∈[z.s.heap.objs.size],z.y.W b=none:=λb hb=>by
 cases dC.mp hb;exact z.no (aN _)
theorem jM{St:Nat->Heap->Prop}(hQ: ∀it fp St Mid h',cY C.toSt C.A z.y false it fp src St Mid->St 0 h'->Keeps z.s.heap h'->(∀b∈fp,z.y.W b=none)->Q (.ref it) {z.s with heap:=h'})
  (W:cY C.toSt C.A z.y false z.s.heap.objs.size [z.s.heap.objs.size] src St Mid) (h:St 0 (z.s.heap.push o)):Q (.ref z.s.heap.objs.size) {z.s with heap:=z.s.heap.push o}:=hQ _ _ _ _ _ W h (Keeps.push _ _) Ox
theorem JF(hh:C.A.handled=none)(e:aU z.H i=some ob)(hp:z.y.φ (.obj i)=some p)(hs:Rr i ob=some src):kW false C z src (.ref p.a):=λQ E hQ=>by
 have hO:=z.ob (ix:=.obj i) e hp;induction ob with
 |list vs=>
  rcases hs with _|_;refine ae λaA=>?_;obtain ⟨xs,ep,h1,h2⟩:=hO.o;refine aA ?_;exact Kl<|adj ⟨_,h1,rfl,_,rfl⟩ (jM hQ (Cf hh hp _) ⟨_,da _ rfl,rfl,rfl⟩)
 |dict kvs=>induction kvs with
  |nil=>
   rcases hs with _|_;refine ae λb8=>?_;obtain ⟨o,es,ep,h1,h2,h3,h4,h5⟩:=hO.o;refine b8 ?_;cases aaV.mp (show es.toList=(#[]:Array ab3).toList from h4);have hD:z.s.heap.DictAt (ed PT C.w) p.a [] ep:=⟨o, #[],h1,h2,h3,λe he=>(wq e he).elim,.nil,mB⟩;exact Kl<|wpAny_pyIter_dict (Io (congrArg bR hO.a)) hD (jM hQ (Cg hh) ⟨rfl,⟨_,da _ rfl,rfl,rfl⟩,hD.push _⟩)
  |cons=>exact bw hs
 |_=>exact bw hs
theorem JG(hh:C.A.handled=none)(hv:az z.y v x)(hs:Rt v z.H=some src):kW false C z src x:=by
 cases v with
 |list vs=>
  cases hs;obtain ⟨xs,k,r⟩:=hv;cases k with|mk h1 h2 h3=>exact λQ E hQ=>Kl<|adj ⟨_,z.qZ h1,h2,_,h3⟩ (jM hQ (Ce hh h1 h2 h3 r _) ⟨_,da _ rfl,rfl,rfl⟩)
 |tup vs=>
  cases hs;obtain ⟨xs,k,r⟩:=hv;cases k with|mk h1 h2 h3=>exact λQ E hQ=>Kl<|ad3 ⟨_,z.qZ h1,h2,_,h3⟩ (jM hQ (iter_tuple hh h1 h2 h3 r _) ⟨_,da _ rfl,rfl,rfl⟩)
 |bytes l=>
  cases hs;obtain ⟨b,t,rfl,rfl⟩:=hv;exact λQ E hQ=>Kl<|KBw.pyIter_bytes (jM hQ (yF hh b t _) ⟨_,da _ rfl,rfl,rfl⟩)
 |ref i=>
  obtain ⟨p,hp,rfl⟩:=hv;exact aQ hs λo e hs=>JF hh e hp hs
 |_=>exact bw hs
end
section
variable{sc:abL}
theorem EM(h:aV sc false e m):gG sc false e (srcOf m):=λk z Q E w=>
 one h.qM w λv z' x w U hv=>w.opt λsrc q w=>w.ok' rfl z' (bY.refl _ z') (JG (k.hh rfl) hv q)
theorem fits_of{i:Int}(h:i.natAbs<2^63):abp i=true:=by
 have H:(i.natAbs:Int)<2^63:=js.mpr h;exact eJ.mpr ⟨decide_eq_true (u3 (abi (aap H)) (Int.neg_le_of_neg_le (TC i▸Yf (a:= -i)))),decide_eq_true (Int.lt_of_le_of_lt Yf H)⟩
theorem Oz{i j:Int}{G:Prop}(h:MS i j=some src)(k:yB i j 1=(j-i).toNat->aac i j 1=true->src=.vals (kJ (j-i).toNat i)->G):G:=by
 refine cN h λg h=>gz g λg1 g2=>cN h λg3 h=>?_;have e:yB i j 1=(j-i).toNat:=by
  unfold yB;rw [if_pos (by decide)];by_cases q:i<j
  ·rw [if_pos q,Int.ediv_one,Int.sub_add_cancel,wx (Int.sub_nonneg_of_le (aap q))]
  ·rw [if_neg q,Int.toNat_of_nonpos (Xt (ro.mp q))];rfl
 refine k e ?_ (ag h).symm;have b:=fits_of (kS (aZ g1) (by decide));have b':=fits_of (kS (aZ g2) (by decide));unfold aac
 (rewrite [e,b,b',fits_of (i:=((j-i).toNat:Nat)) (kS (aZ g3) (by decide)),show (1:Int)-1=0 from rfl,aak,b',if_pos (by decide),Bool.or_true];try with_reducible rfl);rfl
theorem qg{z:Z C}(hh:C.A.handled=none){i j:Int}(h:MS i j=some src)(w:Po b (kW false) z (.ok src z.ρ z.H) Q E):
  Q (.ref z.s.heap.objs.size) {z.s with heap:=z.s.heap.push {cls:=.type "range",data:=.fields #[.int i t,.int j u,.int 1 v]},toks:=k}:=Oz h λh1 h2 e=>by
 subst e;obtain ⟨I,A⟩:=z.iR (Keeps.push z.s.heap {cls:=.type "range",data:=.fields #[.int i t,.int j u,.int 1 v]}) k;refine w.ok' rfl ⟨_,_,_,_,I⟩ A.lax λQ' E' hQ=>?_;refine Kl<|wpAny_pyIter_range (da _ rfl) h2 ?_;rw [h1];refine jM (z:=⟨z.y,z.ρ,z.H,_,I⟩) hQ (yG hh _ i _) ?_;show Heap.get? _ _=_;rw [da _ rfl];simp
variable{x:Str}
theorem Cn(hA:aV sc false a m)(h1:Plain a)(hg:glob sc x=some (.bi 9))(np pos:Pos):gG sc false (.Call (.Name x np) [a] [] pos) (bU (ak 0) m):=
 pN (f:=λv=>(λU ρ H=>oB (Rw (sM (.int 0) H) (den v ρ H)) λs=>.ok s ρ H:M Src)) rfl (.ty _) hg hA h1 λk z a v Q E w hv=>w.opt λsrc e w=>aQ e λi e1 e=>aQ e λj e2 e=>by
  cases e1;obtain ⟨t,rfl⟩:=(rd hv).i _ e2;exact Kl<|call_range_1 (qg (k.hh rfl) e w)
theorem Co(hA:aV sc false a ma)(hB:aV sc false b mb)(h1:Plain a)(h2:Plain b)(hg:glob sc x=some (.bi 9))(np pos:Pos):gG sc false (.Call (.Name x np) [a,b] [] pos) (bU ma mb):=
 yf rfl (.ty _) hg dm fH hA hB h1 h2 λk z a b v u Q E w ha hb=>w.opt λsrc e w=>aQ e λi e1 e=>aQ e λj e2 e=>by
  obtain ⟨t,rfl⟩:=(rd ha).i _ e1;obtain ⟨t,rfl⟩:=(rd hb).i _ e2;exact Kl<|call_range_2 (qg (k.hh rfl) e w)
end
end MP
end Mine.Lake
end
section
namespace Mine.Lake
namespace MP
open PySem PySem.W PyProof.Rows
theorem More.new(hn:y.W n=none)(e:h.get? n=none)(e':h'.get? n=some o)(k: ∀a x,y.W a=some x->Hk h h' a):More y (y.set n (some (.kept o))) h h':=
 ⟨λa x q=>⟨(y.cA _ (Wd.ne hn q)).trans q,k a x q⟩,λa x q=>by
  by_cases p:a=n
  ·subst p;rw [y.cC] at q;cases q;exact .inr ⟨e,e'⟩
  ·exact .inl ((y.cA _ p).symm.trans q),rfl⟩
theorem v7(ha:az y a u)(hb:az y b v)(hn:y.W n=none):az (y.set n (some (.kept {cls:=.type "tuple",data:=.seq #[u,v]}))) (.tup [a,b]) (.ref n):=
 have l:=(Le.set (x:=some (.kept {cls:=.type "tuple",data:=.seq #[u,v]})) hn).toUp
 ⟨_,.mk (congrArg bR (y.cC _ _)) rfl rfl,_,_,rfl,ha.mono l,_,_,rfl,hb.mono l,rfl⟩
theorem v8:aU (vo i p) k=(aU p k).map λa=>.tup [.int ((i+k:Nat):Int),a]:=by
 induction p generalizing i k with
 |nil=>rfl
 |cons a p ih=>induction k with
  |zero=>rfl
  |succ k=>rw [nr k 1, <-fw,nr 1 k];exact ih
theorem As:aU (Bs p q) k=(aU p k).bind λa=>(aU q k).map λb=>.tup [a,b]:=by
 induction p generalizing q k with
 |nil=>rfl
 |cons a p ih=>induction q with
  |nil=>show none=_;generalize aU (a::p) k=o;rcases o with _|_<;>rfl
  |cons b q=>induction k with
   |zero=>rfl
   |succ k=>exact ih
theorem EN{xs:Array Value}(h:xs.toList[k]?=some x):k<xs.size/\ ∀x',xs[k]?=some x'->x'=x:=by
 rw [vi] at h;exact ⟨(Array.getElem?_eq_some_iff.mp h).1,λx' e=>ag (e.symm.trans h)⟩
theorem yJ{vs:List V}{xs:Array Value}(hv:aB y vs xs.toList)(h:aU vs k=none):xs.size<=k:=by
 have:=hv.end h
 rw [vi] at this;exact Array.getElem?_eq_none_iff.mp this
theorem Au{α:Type}{P:α->Prop}{a b:α}(h1:P a)(h2:P b): ∀x∈[a,b],P x:=du.mpr ⟨h1,du.mpr ⟨h2,λU h=>nomatch h⟩⟩
theorem OA{α:Type}{P:α->Prop}{a b c d e:α}(h1:P a)(h2:P b)(h3:P c)(h4:P d)(h5:P e): ∀x∈[a,b,c,d,e],P x:=du.mpr ⟨h1,du.mpr ⟨h2,du.mpr ⟨h3,Au h4 h5⟩⟩⟩
theorem Cp{α:Type}{a b x:α}(h:x∉[a,b]):x≠a/\x≠b:=⟨oT h,oT (pk h)⟩
theorem EO{α:Type}{a b c d e x:α}(h:x∉[a,b,c,d,e]):x≠a/\x≠b/\x≠c/\x≠d/\x≠e:=
 have h2:=pk h;have h3:=pk h2
 ⟨oT h,oT h2,oT h3,Cp (pk h3)⟩
theorem v9{α:Type}{a b x:α}(h1:x≠a)(h2:x≠b):x∉[a,b]:=λh=>(de.mp h).elim h1 λh=>h2 (dC.mp h)
inductive LJ(S:St)(A:Around)(y0:Wd)(vs:List V)(it l:Addr)(I:Nat->Heap->Prop):Prop
 |mk {xs:Array Value} {S1:Heap->Prop}:adV PT S.w A it [it,l] xs.size (λi v=>xs[i]?=some v) (λi h=>I i h/\S1 h)->(∀k h,I k h->yD it h (I k))->(∀y ρ H s,InvH S y ρ H s->Up y0 y->S1 s.heap)->aB y0 vs xs.toList->LJ S A y0 vs it l I
section
variable{S:St}{A:Around}{y0:Wd}(hh:A.handled=none){l it:Addr}{o:Obj}{items:Array Value}{ep:Nat}(hl:y0.J l=some o)(hd:o.data=.seq items ep){vs:List V}(hv:aB y0 vs items.toList)(ne:l≠it)
include hh hl hd hv ne
theorem l9(hc:o.cls=.type "list"):LJ S A y0 vs it l λk h=>h.IsListIter it l k:=
 .mk (adV.list hh _ _ ne items) (λk h st=>yD.of (c:="list_iterator") st (by decide) (by decide)) (λy ρ H s I u=>⟨o,I.own _ _ (aJ (u.j _ _ hl)),hc,ep,hd⟩) hv
theorem JH(hc:o.cls=.type "tuple"):LJ S A y0 vs it l λk h=>h.IsTupleIter it l k:=
 .mk (Ot hh _ _ ne items) (λk h st=>yD.of (c:="tuple_iterator") st (by decide) (by decide)) (λy ρ H s I u=>⟨o,I.own _ _ (aJ (u.j _ _ hl)),hc,ep,hd⟩) hv
end
theorem yD.live(x:yD it h P): ∃o,h.get? it=some o/\o.cls≠ .type "frame":=by induction x with|mk a b _ d=>exact ⟨_,a,BA b d⟩
theorem yD.hk(x:yD it h P)(k:Hk h h' it):P h':=by induction x with|mk a b _ _ e=>exact e _ (k _ a)
section
variable{S:St}{A:Around}{y0:Wd}
theorem Cq(hei:e≠it)(hle:l∉[e,it]){vs:List V}(hn:vs.length=n)(D:LJ S A.in1 y0 vs it l I):
  cY S A y0 true e [e,it] (.vals (vo 0 vs)) (λk h=>k<=n/\(∃old,IsEnum h e it k old)/\I k h) (λk x h=> ∃T y,x=.ref T/\k+1<=n/\IsEnumOut h e it ((k:Int)+1) y T/\I (k+1) h):=by
 refine ae λaA=>?_;induction D with|@mk xs S1 D ha hs hv=>
 obtain ⟨n1,n2⟩:=Cp hle;refine aA ?_;have hn:xs.size=n:=(hv.len.trans eA).symm.trans hn;have hef:e∉[it,l]:=v9 hei (Ts n1);exact {
  live:=λk h st=>Au (st.2.1.elim λold a=>⟨_,a,BA rfl (by decide)⟩) (ha _ _ st.2.2).live
  frame:=λk h h' st hk=>⟨st.1,st.2.1.imp λold a=>hk e bj _ a,(ha _ _ st.2.2).hk (hk it (cb _ bj))⟩
  keep:=λk h h' st hk=>⟨st.1,st.2.1.imp λold a=>hk _ _ a,(ha _ _ st.2.2).hk (hk _)⟩
  item:=λy ρ H s k v Q E I u hF st qh hQ=>by
   refine ae λb8=>?_;obtain ⟨a0,⟨old,a1⟩,a2⟩:=st;obtain ⟨va,q1,rfl⟩:=eR.mp (v8.symm.trans (ag qh));obtain ⟨x,hx,hr⟩:=(hv.mono u).aU q1;obtain ⟨lx,ux⟩:=EN hx;refine b8 ?_;refine Kl<|wpAny_pyNext_enum_itemD D a1 ⟨a2,hs _ _ _ _ I u⟩ lx hei hef λx' h' tk e1 b1 b2 b3 b4 b5=>?_;cases ux _ e1;have hne:y.W s.heap.objs.size=none:=by
    cases q:y.W s.heap.objs.size with
    |none=>rfl
    |some x=>obtain ⟨o,w⟩:=I.live q;exact bw ((aN _).symm.trans w)
   have out: ∀{b},b∉[e,it]->Hk s.heap h' b:=λnb o eo=>b5 _ o (Cp nb).1 (Cp nb).2 eo;exact hQ _ _ h' (tk+1) (.new hne (aN _) b3 λa w q=>out λhm=>by rw [hF a hm] at q;exact bw (q)) (v7 ⟨_,by rw [fb]⟩ hr hne) ⟨_,_,rfl,hn▸lx,b1,b2.1⟩ λb=>out
  go:=λt k x s Q E htp hm hQ=>by
   refine ae λjT=>?_;obtain ⟨T,y,rfl,a0,a1,a2⟩:=hm;obtain ⟨es,k,p,rfl⟩:=htp rfl;refine jT ?_;exact Kl<|wpAny_letOwnedTupleGo_enum a1 λh' he' hs'=>hQ h' ⟨a0,⟨y,by simpa using he'⟩,(ha _ _ a2).hk λo e=>hs'.extBut _ _ hei.symm e⟩ λb nb o e=>hs'.extBut _ _ (Cp nb).1 e
  done:=λy ρ H s k Q E I u st qh hQ=>by
   refine ae λCr=>?_;obtain ⟨a0,⟨old,a1⟩,a2⟩:=st;refine Cr ?_;have q:=Bn.mp (v8.symm.trans (ag qh));cases Hd (hn▸a0) (yJ hv q);exact Kl<|wpAny_pyNext_enum_endD D a1 ⟨a2,hs _ _ _ _ I u⟩ λh' hs'=>hQ h' s.toks λb nb o e=>hs' b o (Cp nb).2 e
  self:=λk s Q E st h=>let ⟨old,a1⟩:=st.2.1;Kl (ad9 a1 h)}
structure Av(z TI TO i1 i2:Addr)(n1 n2:Nat)(I1 I2:Nat->Heap->Prop)(old:Value)(k:Nat)(h:Heap):Prop where
 l1:k<=n1
 l2:k<=n2
 z:acL h z TI TO old
 ti:acg h TI (.ref i1) (.ref i2)
 to: ∃a b,acg h TO a b
 i1:I1 k h
 i2:I2 k h
theorem EP(P5:t9 z TI TO i1 i2)(hl1:l1∉[z,TI,TO,i1,i2])(hl2:l2∉[z,TI,TO,i1,i2]){vs ws:List V}(D1:LJ S A.in1 y0 vs i1 l1 I1)(D2:LJ S A.in1 y0 ws i2 l2 I2):
  cY S A y0 true z [z,TI,TO,i1,i2] (.vals (Bs vs ws)) (Av z TI TO i1 i2 vs.length ws.length I1 I2 .none) (λk x h=> ∃T,x=.ref T/\Av z TI TO i1 i2 vs.length ws.length I1 I2 (aco T) (k+1) h):=by
 refine ae λaA=>?_;induction D1 with|@mk xs S1 D1 ha1 hs1 hv=>
 induction D2 with|@mk ys S2 D2 ha2 hs2 hw=>
 refine aA ?_;rw [show vs.length=xs.size from hv.len.trans eA,show ws.length=ys.size from hw.len.trans eA];refine ae λb8=>?_;obtain ⟨p1,p2,p3,p4,p5⟩:=EO hl1;obtain ⟨r1,r2,r3,r4,r5⟩:=EO hl2;refine b8 ?_;have f1:z∉[i1,l1]/\TO∉[i1,l1]/\i2∉[i1,l1]:=⟨v9 P5.a3.symm p1.symm,v9 P5.a8 p3.symm,v9 P5.Vn.symm p5.symm⟩;have f2:z∉[i2,l2]/\TO∉[i2,l2]/\i1∉[i2,l2]:=⟨v9 P5.a4.symm r1.symm,v9 P5.a9 r3.symm,v9 P5.Vn r4.symm⟩;have keep: ∀{k old h h'},Av z TI TO i1 i2 xs.size ys.size I1 I2 old k h->(∀b∈[z,TI,TO,i1,i2],Hk h h' b)->Av z TI TO i1 i2 xs.size ys.size I1 I2 old k h':=λst hk=>by
  obtain ⟨m1,hk⟩:=du.mp hk;obtain ⟨m2,hk⟩:=du.mp hk;obtain ⟨m3,hk⟩:=du.mp hk;obtain ⟨m4,hk⟩:=du.mp hk;exact ⟨st.l1,st.l2,m1 _ st.z,m2 _ st.ti,st.to.imp λa x=>x.imp λb x=>m3 _ x,(ha1 _ _ st.i1).hk m4,(ha2 _ _ st.i2).hk (hk _ bj)⟩
 exact {
  live:=λk h st=>OA ⟨_,st.z,BA rfl (by decide)⟩ ⟨_,st.ti,BA rfl (by decide)⟩ (st.to.elim λa x=>x.elim λb x=>⟨_,x,BA rfl (by decide)⟩) (ha1 _ _ st.i1).live (ha2 _ _ st.i2).live
  frame:=λk h h' st hk=>keep st hk
  keep:=λk h h' st hk=>keep st λb U=>hk b
  item:=λy ρ H s k v Q E I u hF st qh hQ=>by
   refine ae λjT=>?_;obtain ⟨va,q1,q⟩:=PQ.mp (As.symm.trans (ag qh));obtain ⟨vb,q2,rfl⟩:=eR.mp q;obtain ⟨x,hx,hrx⟩:=(hv.mono u).aU q1;obtain ⟨x',hx',hry⟩:=(hw.mono u).aU q2;obtain ⟨lx,ux⟩:=EN hx;obtain ⟨ly,uy⟩:=EN hx';obtain ⟨a,c,t3⟩:=st.to;refine jT ?_;refine v5 P5 D1 D2 f1 f2 st.z st.ti t3 ⟨st.i1,hs1 _ _ _ _ I u⟩ ⟨st.i2,hs2 _ _ _ _ I u⟩ st.l1 st.l2 (λU U x1 y1 h' tk e1 e2 b1 b2 b3 b4 b5 b6=>?_) λg=>(g.elim (λg=>ll lx g) λg=>ll ly g).elim;cases ux _ e1;cases uy _ e2;have hne:y.W s.heap.objs.size=none:=by
    cases q:y.W s.heap.objs.size with
    |none=>rfl
    |some x=>obtain ⟨o,w⟩:=I.live q;exact bw ((aN _).symm.trans w)
   have out: ∀{b},b∉[z,TI,TO,i1,i2]->Hk s.heap h' b:=λnb o eo=>have n:=EO nb;b6 _ o n.1 n.2.2.1 n.2.2.2.1 n.2.2.2.2 eo;exact hQ _ _ h' tk (.new hne (aN _) b5 λa w q=>out λhm=>by rw [hF a hm] at q;exact bw (q)) (v7 hrx hry hne) ⟨_,rfl,lx,ly,b1,b6 _ _ P5.a1 P5.a5 P5.a6 P5.a7 st.ti,⟨_,_,b2⟩,b3.1,b4.1⟩ λb=>out
  go:=λt k x s Q E htp hm hQ=>by
   refine ae λCr=>?_;obtain ⟨T,rfl,st⟩:=hm;obtain ⟨es,k,p,rfl⟩:=htp rfl;refine Cr ?_;refine Kl<|wpAny_letOwnedTupleGo_zip st.z λh' hz' hs'=>?_;have k: ∀b,b≠z->Hk s.heap h' b:=λb n o e=>hs'.extBut _ _ n e;exact hQ h' ⟨st.l1,st.l2,hz',k _ P5.a1 _ st.ti,st.to.imp λa x=>x.imp λb x=>k _ P5.a2 _ x,(ha1 _ _ st.i1).hk (k _ P5.a3),(ha2 _ _ st.i2).hk (k _ P5.a4)⟩ λb nb=>k b (EO nb).1
  done:=λy ρ H s k Q E I u st qh hQ=>by
   have q: ¬(k<xs.size/\k<ys.size):=λg=>by
    have e:=As.symm.trans (ag qh);cases q1:aU vs k with
    |none=>exact px.mpr (yJ hv q1) g.1
    |some a=>rw [q1] at e;exact px.mpr (yJ hw (Bn.mp e)) g.2
   refine ae λSo=>?_;obtain ⟨a,c,t3⟩:=st.to;refine So ?_;exact v5 P5 D1 D2 f1 f2 st.z st.ti t3 ⟨st.i1,hs1 _ _ _ _ I u⟩ ⟨st.i2,hs2 _ _ _ _ I u⟩ st.l1 st.l2 (λg1 g2=>(q ⟨g1,g2⟩).elim) λU h' tk hk=>hQ h' tk λb nb o eo=>have n:=EO nb;hk _ o n.1 n.2.2.1 n.2.2.2.1 n.2.2.2.2 eo
  self:=λk s Q E st h=>Kl<|wpAny_pyIter_zip st.z h}
end
theorem OB(n:Nat):t9 (n+4) (n+2) (n+3) n (n+1):=by
 constructor<;>exact λ(h:(_:Nat)=_)=>by lia
theorem ER{l n:Nat}(h:l<n):(l:Addr)∉([n+4,n+2,n+3,n,n+1]:List Addr):=by
 have p: ∀b∈([n+4,n+2,n+3,n,n+1]:List Nat),n<=b:=OA (cw _ _) (cw _ _) (cw _ _) (eb _) (cw _ _);exact λhm=>px.mpr (p _ hm) h
section
variable{C:Cx}{z:Z C}
theorem qi(hb:z.s.heap.objs.size<=b):z.y.W b=none:=by
 refine z.no ?_;cases q:z.s.heap.get? b with
 |none=>rfl
 |some o=>exact absurd (ik q) (px.mpr hb)
inductive yK(y:Wd)(b:Bool)(p:List V):Value->Prop
 |list {a o xs ep}:y.J a=some o->o.cls=.type "list"->o.data=.seq xs ep->aB y p xs.toList->yK y b p (.ref a)
 |tup {a o xs ep}:b=true->y.J a=some o->o.cls=.type "tuple"->o.data=.seq xs ep->aB y p xs.toList->yK y b p (.ref a)
theorem Aw(hv:az y v x)(h:Dw v=some p):yK y false p x:=by
 cases v with
 |list vs=>cases h;obtain ⟨xs,k,r⟩:=hv;induction k with|mk a b c=>exact .list a b c r
 |_=>exact bw h
theorem OC(hv:az y v x)(h:Rx v=some p):yK y true p x:=by
 cases v with
 |list vs=>cases h;obtain ⟨xs,k,r⟩:=hv;induction k with|mk a b c=>exact .list a b c r
 |tup vs=>cases h;obtain ⟨xs,k,r⟩:=hv;induction k with|mk a b c=>exact .tup rfl a b c r
 |_=>exact bw h
theorem Ax(hh:C.A.handled=none){l1 l2:Addr}(w:Po b (kW true) z (.ok (.vals (Bs p q)) z.ρ z.H) Q E)(g1:l1<z.s.heap.objs.size)(g2:l2<z.s.heap.objs.size)
  (D1:l1≠z.s.heap.objs.size->LJ C.toSt C.A.in1 z.y p z.s.heap.objs.size l1 I1) (D2:l2≠z.s.heap.objs.size+1->LJ C.toSt C.A.in1 z.y q (z.s.heap.objs.size+1) l2 I2)
  (c1:acL h' (z.s.heap.objs.size+4) (z.s.heap.objs.size+2) (z.s.heap.objs.size+3) .none) (c2:acg h' (z.s.heap.objs.size+2) (.ref z.s.heap.objs.size) (.ref (z.s.heap.objs.size+1))) (c3:acg h' (z.s.heap.objs.size+3) .none .none) (c4:I1 0 h') (c5:I2 0 h') (c7:Keeps z.s.heap h'):Q (.ref (z.s.heap.objs.size+4)) {z.s with heap:=h'}:=by
 obtain ⟨I,A⟩:=z.iR c7 z.s.toks;refine w.ok' rfl ⟨_,_,_,_,I⟩ A.lax λQ' E' hQ=>?_;exact Kl<|wpAny_pyIter_zip c1 (hQ _ _ _ _ h' (EP (OB _) (ER g1) (ER g2) (D1 (ll g1)) (D2 (ll (lj g2)))) ⟨v3 _,v3 _,c1,c2,⟨_,_,c3⟩,c4,c5⟩ (Keeps.refl _)
  (OA (qi (z:=z) (cw _ _)) (qi (z:=z) (cw _ _)) (qi (z:=z) (cw _ _)) (qi (z:=z) (eb _)) (qi (z:=z) (cw _ _))))
theorem ES(hh:C.A.handled=none)(w:Po b (kW true) z (.ok (.vals (Bs p q)) z.ρ z.H) Q E)(h1:yK z.y true p x)(h2:yK z.y false q y):ax C.M C.A (call (.type "zip") [x,y]) Q E z.s:=by
 induction h2 with
 |tup h=>exact bI h
 |list b1 b2 b3 b4=>
  have g2:=ik (z.qZ b1);induction h1 with
  |list a1 a2 a3 a4=>
   have g1:=ik (z.qZ a1);exact call_zip_2 ⟨_,z.qZ a1,a2,_,a3⟩ ⟨_,z.qZ b1,b2,_,b3⟩ λh' c1 c2 c3 c4 c5 U c7=>Ax (I1:=λk h=>h.IsListIter _ _ k) (I2:=λk h=>h.IsListIter _ _ k) hh w g1 g2 (λn=>l9 (A:=C.A.in1) hh a1 a3 a4 n a2) (λn=>l9 (A:=C.A.in1) hh b1 b3 b4 n b2) c1 c2 c3 c4 c5 c7
  |tup _ a1 a2 a3 a4=>
   have g1:=ik (z.qZ a1);exact Cm ⟨_,z.qZ a1,a2,_,a3⟩ ⟨_,z.qZ b1,b2,_,b3⟩ λh' c1 c2 c3 c4 c5 c7=>Ax (I1:=λk h=>h.IsTupleIter _ _ k) (I2:=λk h=>h.IsListIter _ _ k) hh w g1 g2 (λn=>JH (A:=C.A.in1) hh a1 a3 a4 n a2) (λn=>l9 (A:=C.A.in1) hh b1 b3 b4 n b2) c1 c2 c3 c4 c5 c7
theorem Cs(hh:C.A.handled=none)(w:Po b (kW true) z (.ok (.vals (vo 0 p)) z.ρ z.H) Q E)(h:yK z.y false p x):ax C.M C.A (call (.type "enumerate") [x]) Q E z.s:=by
 induction h with
 |tup h=>exact bI h
 |list b1 b2 b3 b4=>
  have g:=ik (z.qZ b1);refine call_enumerate_list ⟨_,z.qZ b1,b2,_,b3⟩ λh' c1 c2 c3 c7=>?_;obtain ⟨I,A⟩:=z.iR c7 z.s.toks;refine w.ok' rfl ⟨_,_,_,_,I⟩ A.lax λQ' E' hQ=>?_;exact Kl<|ad9 c1 (hQ _ _ _ _ h' (Cq (I:=λk h=>h.IsListIter _ _ k) (aaW _) (v9 (ll (lj g)) (ll g)) rfl (l9 (A:=C.A.in1) hh b1 b3 b4 (ll g) b2)) ⟨v3 _,⟨_,c1⟩,c2⟩ (Keeps.refl _)
   (Au (qi (z:=z) (tI _)) (qi (z:=z) (eb _))))
end
section
variable{sc:abL}{x:Str}
theorem OD(hA:aV sc false a ma)(hB:aV sc false b mb)(h1:Plain a)(h2:Plain b)(hg:glob sc x=some (.bi 10))(np pos:Pos):gG sc true (.Call (.Name x np) [a,b] [] pos) (o9 ma mb):=
 yf rfl (.ty _) hg mT ji hA.qM hB.qM h1 h2 λk z u v x y Q E w hu hv=>w.opt λp e1 w=>w.opt λq e2 w=>Kl<|ES (k.hh rfl) w (OC hu e1) (Aw hv e2)
theorem JI(hA:aV sc false a m)(h1:Plain a)(hg:glob sc x=some (.bi 11))(np pos:Pos):gG sc true (.Call (.Name x np) [a] [] pos) (lF m):=
 pN rfl (.ty _) hg hA.qM h1 λk z v x Q E w hv=>w.opt λp e w=>Kl<|Cs (k.hh rfl) w (Aw hv e)
end
theorem oQ:put (put l i x) i y=put l i y:=by
 induction l generalizing i with
 |nil=>rfl
 |cons a l ih=>induction i with
  |zero=>rfl
  |succ i=>exact congrArg (λU=>a::U) ih
def wc(sc:abL)(i:Nat):Prop:= ∃n k,aU sc.names i=some (n,k)/\cU k=true
theorem wg(h:cU k=true)(r:By k k'):cU k'=true:=by rcases k with _|_<;>first|exact r|exact bI h
section
variable{C:Cx}{z:Z C}
theorem yL(F:FE C.env C.sc)(hn:aU C.sc.names i=some (n,k))(hk:cU k=true)(v:aY C.env y h i f x): ∃k' c w,aU C.env.scope.names i=some (n,k')/\cU k'=true/\C.env.cells.lookup n=some c/\y.W c=some w/\(w=.cell i\/w.Hl=true)/\h.IsCell c x/\f=w.Hl:=by
 obtain ⟨k',a1,a2,_⟩:=F.at hn;have kc:=wg hk a2;induction v with
 |loc n1 _=>rw [(fc a1 n1).2] at kc;exact bI kc
 |qV n1 k1 c1 w1 d1 g1=>obtain ⟨rfl,rfl⟩:=fc a1 n1;exact ⟨_,_,_,a1,k1,c1,w1,d1,g1,rfl⟩
theorem wh(z:Z C)(F:FE C.env C.sc)(hn:aU C.sc.names j=some (n,k))(hk:cU k=true):(C.env.cells.lookup n).isSome=true:=by
 obtain ⟨k',a1,a2,_⟩:=F.at hn;have kc:=wg hk a2;have cell: ∀{f y},aY C.env z.y z.s.heap j f y->(C.env.cells.lookup n).isSome=true:=λv=>by
  obtain ⟨_,c,_,_,_,q,_⟩:=yL F hn hk v;rw [q];rfl
 have hv:=z.I.vars j;cases q:bh z.ρ j with
 |empty=>rw [q] at hv;exact (hv ⟨n,k',a1,by rcases k' with _|_<;>first|rfl|exact bI kc⟩).elim λy v=>cell v
 |val u=>rw [q] at hv;exact hv.elim λy v=>cell v.1
 |own u=>rw [q] at hv;exact hv.elim λy v=>cell v.2
 |fix u=>rw [q] at hv;exact hv.elim λy v=>cell v.1
theorem wj(z:Z C)(F:FE C.env C.sc)(hn:aU C.sc.names j=some (n,k))(hk:cU k=true)(g:bh z.ρ j=.fix v): ∃c o x,C.env.cells.lookup n=some c/\z.y.W c=some (.kept o)/\o.data=.cell (some x)/\az z.y v x:=by
 have hv:=z.I.vars j;rw [g] at hv;refine ae λaA=>?_;obtain ⟨x,va,hr⟩:=hv;obtain ⟨_,c,w,_,_,a3,a4,_,⟨oc,a6,Xo⟩,a7⟩:=yL F hn hk va;have kk: ∃o,w=.kept o:=by rcases w with _|_<;>first|exact ⟨_,rfl⟩|exact bI a7.symm
 obtain ⟨ok,rfl⟩:=kk;refine aA ?_;cases ag ((z.I.own _ _ a4).symm.trans a6);exact ⟨c,_,x,a3,a4,Xo,hr⟩
theorem Z.fix(F:FE C.env C.sc)(hc:wc C.sc i)(h:bh z.ρ i=.val v): ∃y I,bY true z ⟨y,put z.ρ i (.fix v),z.H,z.s,I⟩/\ ∀b,z.y.W b=none->y.W b=none:=by
 refine ae λaA=>?_;obtain ⟨n,k,hn,hk⟩:=hc;refine aA ?_;have hi:i<z.ρ.length:=by rw [z.I.rl];exact dz hn
 have Zq:=z.I.vars i;rw [h] at Zq;refine ae λb8=>?_;obtain ⟨x,hb,hr⟩:=Zq;obtain ⟨k',c,w,a1,a2,a3,a4,a5,a6,a7⟩:=yL F hn hk hb;have hw:w=.cell i:=a5.elim id λe=>by rw [e] at a7;exact bI a7
 subst hw;obtain ⟨o,b5,b6⟩:=a6;refine b8 ?_;have ne: ∀{a u},z.y.W a=some u->u≠ .cell i->a≠c:=λe n q=>by subst q;cases ag (a4.symm.trans e);exact n rfl
 have self:(z.y.set c (some (.kept o))).W c=some (.kept o):=z.y.cC _ _;have up:Le z.y (z.y.set c (some (.kept o))):=⟨⟨λa o' e=>congrArg bR ((z.y.cA _ (ne (aJ e) nofun)).trans (aJ e)),λU U e=>e⟩,λa o' e=>(z.y.cA _ (ne e nofun)).trans e⟩;have K:xq C z.y (z.y.set c (some (.kept o))) z.ρ (put z.ρ i (.fix v)) z.H z.H z.s z.s (λU=>U=c):=⟨up.toUp,λa u e q=>⟨(z.y.cA _ q).trans e,λU e=>e⟩,λa u e=>by
   by_cases q:a=c
   ·subst q;cases ag (self.symm.trans e);exact .inr b5
   ·exact .inl ⟨(z.y.cA _ q).symm.trans e,q⟩,λa u q e=>by subst q;cases ag (a4.symm.trans e);rfl,z.I.len,λu ob e=>.inl (by
   have e':dg z.ρ z.H u=some ob:=by
    induction u with
    |obj j=>exact e
    |own j=>
     by_cases q:j=i
     ·subst q;rw [dg,bu hi] at e;exact bw (e)
     ·rw [dg,bD q] at e;exact e
   exact ⟨e',rfl,λp hp a pl=>by obtain ⟨d,q⟩:=z.at e' hp pl;exact ne q nofun⟩),rfl,rfl⟩
 have new:aY C.env (z.y.set c (some (.kept o))) z.s.heap i true (some x):=.qV (w:=.kept o) a1 a2 a3 self (.inr rfl) ⟨o,b5,b6⟩;have vk: ∀{j f u},j≠i->aY C.env z.y z.s.heap j f u->aY C.env (z.y.set c (some (.kept o))) z.s.heap j f u:=λq V=>V.keep (λU e=>e) λc' w e d=>⟨(z.y.cA _ (ne e (by
  rcases d with rfl|d
  ·exact λe=>q (by injection e)
  ·rintro rfl;exact bI d))).trans e,λU e=>e⟩
 have I:=z.I.upd K ((z.y.cA _ (ne z.I.iK nofun)).trans z.I.iK) (λj=>by
  by_cases q:j=i
  ·subst q;rw [bu hi];exact ⟨x,new,hr.mono up.toUp⟩
  ·rw [bD q];exact (z.I.vars j).keep up.toUp (λU U=>vk q) rfl) ie z.I.loc λL q=>by induction q with|mk a b c=>exact .mk (up.h _ _ a) b c
 exact ⟨_,I,⟨up,λU j u V=>V.elim λf V=>by
  by_cases q:j=i
  ·subst q;cases (V.fn hb).2;exact ⟨_,new⟩
  ·exact ⟨f,vk q V⟩⟩,λb e=>(z.y.cA _ (Wd.ne e a4).symm).trans e⟩
structure rV(z z':Z C):Prop where
 s:z'.s=z.s
 H:z'.H=z.H
 mH:bY true z z'
 n: ∀b,z.y.W b=none->z'.y.W b=none
 k: ∀j u,bh z.ρ j=.fix u->bh z'.ρ j=.fix u
theorem rV.trans(x:rV z z')(y:rV z' rH):rV z rH:=⟨y.s.trans x.s,y.H.trans x.H,x.mH.trans y.mH,λb h=>y.n b (x.n b h),λj u h=>y.k j u (x.k j u h)⟩
theorem JJ(F:FE C.env C.sc)(hc:wc C.sc i)(hf:Fits A (vj i cf z.ρ z.H)): ∃v, ∃z':Z C,rV z z'/\vj i cf z.ρ z.H=.ok v z'.ρ z'.H/\bh z'.ρ i=.fix v:=by
 have ne: ∀{x:Slot},(∀u,bh z.ρ i≠ .fix u)-> ∀j u,bh z.ρ j=.fix u->bh (put z.ρ i x) j=.fix u:=λn j u h=>(bD λ(e:j=i)=>n u (e▸h)).trans h;have hi:i<z.ρ.length:=by rw [z.I.rl];exact hc.elim λn x=>x.elim λk x=>dz x.1
 unfold vj at hf ⊢;cases q:bh z.ρ i with
 |empty=>rw [q] at hf;exact hf.elim
 |fix v=>exact ⟨v,z,⟨rfl,rfl,bY.refl _ z,λU h=>h,λU U h=>h⟩,rfl,q⟩
 |val v=>
  refine ae λaA=>?_;obtain ⟨y,I,A,n⟩:=z.fix F hc q;refine aA ?_;exact ⟨v,⟨_,_,_,_,I⟩,⟨rfl,rfl,A,n,ne (by rw [q];exact λU h=>nomatch h)⟩,rfl,bu hi⟩
 |own o=>
  rw [q] at hf;induction o with
  |list vs=>
   refine ae λb8=>?_;obtain ⟨p,hp,hb⟩:=z.own (i:=i) (o:=.list vs) (by rw [q];rfl);obtain ⟨y1,I1,A1,_,n1⟩:=vB ⟨_,hb⟩ q rfl;obtain ⟨y,I,A,n⟩:=Z.fix (z:=⟨_,_,_,_,I1⟩) F hc (bu (lN q));refine b8 ?_;refine ⟨.list vs,⟨_,_,_,_,I⟩,⟨rfl,rfl,A1.trans A,λb h=>n b (n1 b h),?_⟩,?_,?_⟩
   ·show ∀j u,_->bh (put (put _ _ _) _ _) j=_;rw [oQ];exact ne (by rw [q];exact λU h=>nomatch h)
   ·exact congrArg (λr=>Out.ok (V.list vs) r z.H) oQ.symm
   ·show bh (put (put _ _ _) _ _) i=_;rw [oQ];exact bu (lN q)
  |_=>exact hf.elim
theorem rW(F:FE C.env C.sc)(hc: ∀i∈is,wc C.sc i)(hf:Fits A (gE is cf z.ρ z.H)): ∃vs, ∃z':Z C,rV z z'/\gE is cf z.ρ z.H=.ok vs z'.ρ z'.H/\vs.length=is.length/\ ∀k i v,aU is k=some i->aU vs k=some v->bh z'.ρ i=.fix v:=by
 induction is generalizing z with
 |nil=>exact ⟨[],z,⟨rfl,rfl,bY.refl _ z,λU h=>h,λU U h=>h⟩,rfl,rfl,λk i v h=>bw h⟩
 |cons i is ih=>
  change Fits A ((vj i cf z.ρ z.H).bind λv ρ' H'=>(gE is cf ρ' H').bind λvs Xp H''=>.ok (v::vs) Xp H'') at hf;refine ae λaA=>?_;obtain ⟨v,z1,x1,e1,g1⟩:=JJ F (hc i bj) hf.left;refine aA ?_;rw [e1] at hf;refine ae λb8=>?_;obtain ⟨vs,z2,x2,e2,l2,g2⟩:=ih (z:=z1) (λj hj=>hc j (cb _ hj)) (Fits.left (show Fits A ((gE is cf z1.ρ z1.H).bind _) from hf));refine b8 ?_;refine ⟨v::vs,z2,x1.trans x2,?_,congrArg (λU=>U+1) l2,λk j u hj hu=>?_⟩
  ·show (vj i cf z.ρ z.H).bind _=_;rw [e1];show (gE is cf z1.ρ z1.H).bind _=_;rw [e2];rfl
  ·induction k with
   |zero=>rcases hj with _|_;rcases hu with _|_;exact x2.k _ _ g1
   |succ k=>exact g2 k j u hj hu
end
noncomputable abbrev jN(ifs:List bp)(env:dq):Sem Bool:=forIn ifs true λc r=>if r=true then do let ok <-aaq c env (eval c env);pure (oa ok) else pure (oa r)
noncomputable def gH(c:bp)(d:Nat)(t iter:bp)(ifs:List bp)(it acc:Value)(env:dq)(em:Sem Unit):Sem Fin:=do
 ab8 iter.pos
 match <-acT it with
 |none=>pure (.done .next)
 |some v=>
  acu t it v
  assign t env v
  let mut ok:=true
  for c in ifs do
   if ok then ok <-aaq c env (eval c env)
  if ok then em
  again (.compLoop c d it acc env)
section
variable{prog:Program}{w:abR}{A:Around}{R:ab6->Shared->Prop}{s:Shared}
theorem uc
  (hT:acP (.ListComp elt gens scope pos) d it acc env=gH (.ListComp elt gens scope pos) d t iter ifs it acc env em)
  (I:Nat->Shared->Prop)
  (turn: ∀n s,I n s->wpAny (abJ prog w) A (acT it) (λr s₁=>match r with
   |none=>R (.ok .next) s₁
   |some v=>wpAny (abJ prog w) A (acu t it v) (λU s₁'=>wpAny (abJ prog w) A (assign t env v) (λU s₂=>
     wpAny (abJ prog w) A (jN ifs env) (λok s₃=>
      if ok=true then wpAny (abJ prog w) A em (λU s₅=> ∃m,m<n/\I m s₅) (notedBy (abJ prog w) A env λe s'=>R (.error e) s') s₃
      else ∃m,m<n/\I m s₃) (notedBy (abJ prog w) A env λe s'=>R (.error e) s') s₂) (notedBy (abJ prog w) A env λe s'=>R (.error e) s') s₁') (notedBy (abJ prog w) A env λe s'=>R (.error e) s') s₁) (notedBy (abJ prog w) A env λe s'=>R (.error e) s') s)
  (n:Nat) (h:I n s):codeAny (abJ prog w) A (.compLoop (.ListComp elt gens scope pos) d it acc env) R s:=by
 refine codeAny_loop rfl I (λn s hI=>?_) n h;show wpAny _ A ((acP (.ListComp elt gens scope pos) d it acc env).onRaise (λx=>do ace x env;acs x)) _ _ s;refine wpAny_noted ?_;rw [hT];unfold gH;refine (cX (wpAny_bind (wpAny_mono (turn n s hI) (λr s₁ h₁=>?_) λU U h'=>h')));induction r with
 |none=>exact wpAny_pure h₁
 |some v=>
  refine wpAny_bind (wpAny_mono h₁ (λU s₁' h₁'=>wpAny_bind (wpAny_mono h₁' (λU s₂ h₂=>wpAny_bind (wpAny_mono h₂ (λok s₃ h₃=>?_) λU U h'=>h')) λU U h'=>h')) λU U h'=>h');induction ok with
  |false=>exact wpAny_pure ⟨rfl,h₃⟩
  |true=>exact wpAny_bind (wpAny_mono h₃ (λU s₅ h₅=>wpAny_pure ⟨rfl,h₅⟩) λU U h'=>h')
theorem ET(elt t iter:bp)(ifs:List bp)(scope:abL)(pos:Pos)(it acc:Value)(env:dq):
  acP (.ListComp elt [⟨t,iter,ifs,0⟩] scope pos) 0 it acc env=gH (.ListComp elt [⟨t,iter,ifs,0⟩] scope pos) 0 t iter ifs it acc env (do let _ <-call (.builtin "list.append") [acc, <-eval elt env]):=by rfl
theorem JK(elt t iter t2 cP:bp)(ifs jt:List bp)(scope:abL)(pos:Pos)(it acc:Value)(env:dq):
  acP (.ListComp elt [⟨t,iter,ifs,0⟩,⟨t2,cP,jt,0⟩] scope pos) 1 it acc env=gH (.ListComp elt [⟨t,iter,ifs,0⟩,⟨t2,cP,jt,0⟩] scope pos) 1 t2 cP jt it acc env (do let _ <-call (.builtin "list.append") [acc, <-eval elt env]):=by rfl
noncomputable def OE(c cP:bp)(acc:Value)(env:dq):Sem Unit:=do
 let x <-eval cP env
 ab8 cP.pos
 let x <-acR cP env x
 let _ <-runOwn (.compStart c 1 (<-ab7 [x] (adq x)) acc env) env
theorem EU(elt t iter t2 cP:bp)(ifs jt:List bp)(scope:abL)(pos:Pos)(it acc:Value)(env:dq):
  acP (.ListComp elt [⟨t,iter,ifs,0⟩,⟨t2,cP,jt,0⟩] scope pos) 0 it acc env=gH (.ListComp elt [⟨t,iter,ifs,0⟩,⟨t2,cP,jt,0⟩] scope pos) 0 t iter ifs it acc env (OE (.ListComp elt [⟨t,iter,ifs,0⟩,⟨t2,cP,jt,0⟩] scope pos) cP acc env):=by
 unfold gH OE;simp only [LawfulMonad.bind_assoc,pure_bind];rfl
end
section
variable{prog:Program}{w:abR}{A:Around}{E:Value->Shared->Prop}{R:ab6->Shared->Prop}{s:Shared}
theorem ud(hl:s.heap.get? l=some {cls:=.type "list",data:=.seq items ep})(hsz:items.size<=abQ)
  (hQ: ∀h' n',h'.get? l=some {cls:=.type "list",data:=.seq (items.push x) n'}->gd l s.heap h'->Q .none {s with heap:=h'}):
  ax (abJ prog w) A (call (.builtin "list.append") [.ref l,x]) Q E s:=by
 have hL:s.heap.IsList l items:=⟨_,hl,rfl,_,rfl⟩;refine ub slot_list_append hL.typeIs entry_list_append ?_ (args_list_append _ _);show ax _ _ (updateSeq l (λU=>U.push x)>>=λU=>ret .none) _ _ s;refine bc ?_;refine wpAny_updateSeq hl rfl (cp ⟨.none,rfl,hQ _ (if (items.push x).size==items.size then ep else ep+1) ?_ (lk ..)⟩);rw [ew _ hl rfl];rfl
theorem ue
  (h0:codeAny (abJ prog w) A (.compLoop (.ListComp elt [⟨t,iter,ifs,0⟩,⟨t2,cP,jt,0⟩] scope pos) 1 it acc env) R s)
  (h:wpAny (abJ prog w) A (adq it) (λit' s'=>codeAny (abJ prog w) A (.compLoop (.ListComp elt [⟨t,iter,ifs,0⟩,⟨t2,cP,jt,0⟩] scope pos) 1 it' acc env) R s')
   (notedBy (abJ prog w) A env λx s'=>R (.error x) s') s):
  codeAny (abJ prog w) A (.compStart (.ListComp elt [⟨t,iter,ifs,0⟩,⟨t2,cP,jt,0⟩] scope pos) 1 it acc env) R s:=by
 refine codeAny_of_tree ?_;show wpAny _ _ ((compStart (.ListComp elt [⟨t,iter,ifs,0⟩,⟨t2,cP,jt,0⟩] scope pos) 1 it acc env).onRaise (λx=>do ace x env;ab8 theWindowsPlace)) _ _ s;refine wpAny_notedAt ?_;unfold compStart;show wpAny _ _ (ask>>=_) _ _ s;refine wpAny_bind (Kl<|wpAny_askSetting (wpAny_ite ?_));split
 ·first
   |exact (pureO (wpAny_pure (aar rfl h0)))
   |exact wpAny_pure (aar rfl h0)
 ·first
   |exact (rq ((cX (wpAny_bind (wpAny_mono h (λit' s' h'=>wpAny_pure (aar rfl h')) λU U x=>x)))))
   |(refine (rq ?_);show wpAny _ _ (ab8 cP.pos>>=_) _ _ s;exact (cX (wpAny_bind (wpAny_mono h (λit' s' h'=>wpAny_pure (aar rfl h')) λU U x=>x))))
end
section
variable{sc:abL}
abbrev OF(sc:abL):List bp->List (M Bool)->Prop:=cM (kQ sc false)
theorem wk(env:dq)(ifs:List bp):(forIn ifs false (λc r=>if r=true then do let ok <-aaq c env (eval c env);pure (oa ok) else pure (oa r)):Sem Bool)=pure false:=by
 induction ifs with
 |nil=>rfl
 |cons c r ih=>
  rw [ij];simp only [pz,if_false,pure_bind];exact ih
theorem wm(h:OF sc ifs ms):Ref true kM sc false (λenv=>jN ifs env) (n7 ms):=by
 induction h with
 |nil=>exact λk z Q E w=>wpAny_pure (w.ok' rfl z (bY.refl _ z) rfl)
 |cons h _ ih=>
  intro k z Q E w;show wpAny _ _ (forIn (_::_) true _) _ _ _;rw [ij];simp only [if_true];refine wpAny_bind (wpAny_bind (one h w λb z' y w U e=>wpAny_pure ?_));rcases e with _|_;induction b with
  |true=>exact ih k z' Q E w
  |false=>
   show wpAny _ _ (forIn _ false _) _ _ _;rw [wk];exact wpAny_pure (w.ok' rfl z' (bY.refl _ z') rfl)
end
structure oj{α γ:Type}{C:Cx}(b:Bool)(rel:Rl α γ)(z:Z C)(out:Out α)(Q:γ->Shared->Prop)(E:Value->Shared->Prop):Prop where
 fits:Fits C.A out
 ok: ∀a z' v,out=.ok a z'.ρ z'.H->bY b z z'->rel C z' a v->Q v z'.s
 exc: ∀k w (z':Z C) v,out=.exc k w z'.ρ z'.H->Le z.y z'.y->cK z'.y z'.s.heap k w v->E v z'.s
section
variable{α β γ δ:Type}{C:Cx}{b:Bool}{rel:Rl β γ}{z z':Z C}{Q:γ->Shared->Prop}{E:Value->Shared->Prop}
theorem Po.n(w:Po b rel z out Q E):oj b rel z out Q (cameBackBy C.M C.A C.env E):=
 ⟨w.fits,w.ok,λk u z' v e l F=>Kl<|nC (E:=E) F λz2 A U e2 e3 F=>w.exc k u z2 v (by rw [e2,e3];exact e) (l.trans A.toLe) F.Sb⟩
theorem oj.mH(w:oj b rel z out Q E)(A:bY b z z'):oj b rel z' out Q E:=
 ⟨w.fits,λc rH v e h=>w.ok c rH v e (A.trans h),λk u rH v e h=>w.exc k u rH v e (A.toLe.trans h)⟩
theorem oj.step{m:Out α}(w:oj b rel z (m.bind f) Q E)(e:m=.ok a z'.ρ z'.H)(A:bY b z z'):oj b rel z' (f a z'.ρ z'.H) Q E:=by
 subst e;exact ⟨w.fits,λc rH v e h=>w.ok c rH v e (A.trans h),λk u rH v e h=>w.exc k u rH v e (A.toLe.trans h)⟩
theorem oj.held{K:δ->Shared->Prop}(w:oj b rel z (m.bind f) Q E)(ls:lJ dN)(hF: ∀b∈fp,z.y.W b=none)(hl: ∀b∈fp, ∃o,z.s.heap.get? b=some o/\o.cls≠ .type "frame")
  (hK: ∀a (z':Z C) x,oj b rel z' (f a z'.ρ z'.H) Q E->bY b z z'->dN C z' a x->(∀b∈fp,z'.y.W b=none)->(∀b∈fp,Hk z.s.heap z'.s.heap b)->K x z'.s) {P:Prop} (hP: ∀I',Le z.y (z.y.hold z.s.heap fp)->Po b dN (z.re (z.y.hold z.s.heap fp) I') m K (notedBy C.M C.A C.env E)->P):P:=by
 obtain ⟨I',A1⟩:=z.hold hF;refine hP I' A1.toLe ⟨w.fits.left,λa z' x e A r=>?_,λc u z' v e l F=>Kl<|oM (Q:=λU s=>E v s) F λz2 A U e2 e3 F=>w.exc c u z2 v (by rw [show m=_ from e,e2,e3];rfl) ((A1.toLe.trans l).trans A.toLe) F⟩;obtain ⟨I2,A2,l,k⟩:=z.drop hF hl A;exact hK a (z'.re _ I2) x (oj.step (z':=z'.re _ I2) w e A2) A2 (ls _ z' _ _ _ _ l r) (λb hb=>Wd.fh hb) k
end
abbrev eY(D:Addr):Rl (List V) Unit:=λC z acc U=>gy C.P z.y z.s.heap (.list acc) ⟨D,0⟩
section
variable{C:Cx}{z z':Z C}{D:Addr}{acc:List V}
theorem eY.w(h:eY D C z acc ()):z.y.W D=none:=h.n D (.inl rfl)
theorem eY.live(h:eY D C z acc ()): ∃o,z.s.heap.get? D=some o/\o.cls≠ .type "frame":=h.o.pl (.inl rfl)
theorem eY.keep(h:eY D C z acc ())(u:Up z.y z'.y)(n:z'.y.W D=none)(k:Hk z.s.heap z'.s.heap D):eY D C z' acc ():=gy.keep h u λa q=>by
 rcases q with rfl|⟨q,_⟩
 ·exact ⟨n,k⟩
 ·exact bI q
theorem OG:lJ (eY D):=λC z y I a U l h=>eY.keep (z':=z.re y I) (D:=D) h l.up (l.n _ h.w) λU e=>e
end
def Ct(sc:abL)(D:Addr)(em:dq->Sem Unit)(emit:List V->M (List V)):Prop:= ∀(k:Kx sc false) (z:Z k.C) acc Q E,eY D k.C z acc ()->Po false (eY D) z (emit acc k.cf z.ρ z.H) (λU=>Q) E->wpAny k.M k.A (em k.C.env) (λU=>Q) E z.s
theorem Po.lax{rel:Rl α γ}{z:Z C}{out:Out α}{Q:γ->Shared->Prop}(w:Po false rel z out Q E):Po true rel z out Q E:=⟨w.fits,λa z' v e A r=>w.ok a z' v e A.lax r,w.exc⟩
section
variable{sc:abL}
section
variable{α γ:Type}{C:Cx}{b:Bool}{rel:Rl α γ}{z:Z C}{Q:γ->Shared->Prop}{E:Value->Shared->Prop}
theorem oj.src{src:Src}{G:Prop}(w:oj b rel z (sY src j z.H o f) Q E)(h1:gK src j z.H=some none->oj b rel z o Q E->G)(h2: ∀v,gK src j z.H=some (some v)->oj b rel z (f v) Q E->G):G:=by
 unfold sY at w;cases e:gK src j z.H with
 |none=>rw [e] at w;exact w.fits.elim
 |some x=>rw [e] at w;induction x with
  |none=>exact h1 e w
  |some v=>exact h2 v e w
theorem oj.two{P1 P2:Prop}(w:oj b rel z ((Lj x emit acc cf z.ρ z.H).bind f) Q E)(h:oj b rel z ((emit acc cf z.ρ z.H).bind f) Q E->P1)(h':oj b rel z (f acc z.ρ z.H) Q E->P2):if x=true then P1 else P2:=by
 rcases x with _|_
 ·exact h' w
 ·exact h w
end
inductive Sp(k:Kx sc false)(y0:Wd)(D:Addr)(t:MP.T)(src:Src)(c:M Bool)(emit:List V->M (List V))(fp:List Addr)(St:Nat->Heap->Prop)(Q:Shared->Prop)(E:Value->Shared->Prop)(n:Nat):Shared->Prop
 |mk {j acc} {z:Z k.C}:Up y0 z.y->oj false (eY D) z (compLoop n j t src c emit acc k.cf z.ρ z.H) (λU=>Q) E->St j z.s.heap->(∀b∈fp,z.y.W b=none)->eY D k.C z acc ()->Sp k y0 D t src c emit fp St Q E n z.s
def Xq(Q:Shared->Prop)(E:Value->Shared->Prop):ab6->Shared->Prop:=λr s=>match r with| .ok _=>Q s| .error e=>E e s
theorem rX{rY:MP.T}{D:Addr}(ht:eH false sc t rY)(hc:Ref true kM sc false (λenv=>jN ifs env) cm)(hem:Ct sc D em emit)
  {k:Kx sc false} 
  (hT:acP (.ListComp elt gens scope pos) d (.ref it) (.ref D) k.C.env=gH (.ListComp elt gens scope pos) d t iter ifs (.ref it) (.ref D) k.C.env (em k.C.env))
  {St:Nat->Heap->Prop} (W:cY k.C.toSt k.C.A y0 tp it fp src St Mid) (htp:tp=true->IsTup t) (hD:D∉fp)
  {z:Z k.C} {Q:Shared->Prop} (u:Up y0 z.y) (w:oj false (eY D) z (compLoop n j rY src cm emit acc k.cf z.ρ z.H) (λU=>Q) E) (hst:St j z.s.heap) (hF: ∀b∈fp,z.y.W b=none) (dl:eY D k.C z acc ()):
  codeAny k.M k.A (.compLoop (.ListComp elt gens scope pos) d (.ref it) (.ref D) k.C.env) (Xq Q E) z.s:=by
 refine uc hT (Sp k y0 D rY src cm emit fp St Q E) (λn s h=>?_) n (.mk u w hst hF dl);refine ae λaA=>?_;induction h with|@mk j acc z u w hst hF dl=>
 refine aA ?_;induction n with
 |zero=>exact w.fits.elim
 |succ n=>
  have QF: ∀b∈[D],z.y.W b=none:=λb hb=>dC.mp hb▸dl.w;have hl1: ∀b∈[D], ∃o,z.s.heap.get? b=some o/\o.cls≠ .type "frame":=λb hb=>dC.mp hb▸dl.live;obtain ⟨Ih,A1⟩:=z.hold QF;have Zr: ∀b∈fp,(z.y.hold z.s.heap [D]).W b=none:=λb hb=>(Wd.fq λq=>hD ((dC.mp q:b=D)▸hb)).trans (hF b hb);refine oj.src (o:=.ok acc z.ρ z.H) w (λhv w=>?_) λv hv w=>?_
  ·refine W.end (z:=z.re _ Ih) (u.trans A1.toUp) Zr hst hv λs I A=>?_;refine ae λb8=>?_;obtain ⟨I2,A2,l,kk⟩:=z.drop QF hl1 A;refine b8 ?_;exact w.ok acc (Z.re ⟨_,z.ρ,z.H,s,I⟩ _ I2) () rfl A2.lax (dl.keep (z':=Z.re ⟨_,z.ρ,z.H,s,I⟩ _ I2) A2.toUp (Wd.fh bj) (kk D bj))
  ·refine W.next (z:=z.re _ Ih) (u.trans A1.toUp) Zr hst hv htp λx s2 hgo=>wpAny_mono hgo (λU s3 hx=>?_) (λU U h=>h.elim);refine ae λjT=>?_;obtain ⟨y,I,A,hx,hst,hF⟩:=hx;obtain ⟨I2,A2,l,kk⟩:=z.drop QF hl1 A;refine jT ?_;have dl:=dl.keep (z':=Z.re ⟨y,z.ρ,z.H,s3,I⟩ _ I2) A2.toUp (Wd.fh bj) (kk D bj);have hF: ∀b∈fp,(y.drop [D]).W b=none:=λb hb=>l.n b (hF b hb);refine oj.held (z:=Z.re ⟨y,z.ρ,z.H,s3,I⟩ _ I2) (fp:=D::fp) (w.mH A2.lax) M8 (du.mpr ⟨dl.w,hF⟩) (du.mpr ⟨dl.live,W.live _ _ hst⟩) (λb z4 ok w4 A4 e hF4 hk4=>?_) λI' l' w'=>ht k (Z.re (Z.re ⟨y,z.ρ,z.H,s3,I⟩ _ I2) _ I') (.val v) x _ _ ((hx.mono l.up).mono l'.toUp) (Po.first w' (λh=>h) λU z5 U w5 U U=>hc k z5 _ _ w5.lax);rcases e with _|_;have u4:=(u.trans A2.toUp).trans A4.toUp;have f4:=du.mp hF4;have k4:=du.mp hk4;have dl:=dl.keep A4.toUp f4.1 k4.1;have Xr:=W.frame _ _ _ hst k4.2;exact w4.two (λw4=>oj.held w4 OG f4.2 (W.live _ _ Xr) (λacc' z6 U w6 A6 dl6 hF6 hk6=>⟨n,km _,.mk (u4.trans A6.toUp) w6 (W.frame _ _ _ Xr hk6) hF6 dl6⟩) λI' l' w'=>hem k (z4.re _ I') acc _ _ (dl.keep (z':=z4.re _ I') l'.toUp ((Wd.fq hD).trans dl.w) λU e=>e) w') λw4=>⟨n,km _,.mk u4 w4 Xr f4.2 dl⟩
theorem eY.r{z:Z C}{D:Addr}(h:eY D C z acc ()):bK C z (.own (.list acc)) (.ref D):=⟨⟨D,0⟩,rfl,h⟩
theorem eY.of{z:Z C}{D:Addr}(h:bK C z (.own (.list acc)) (.ref D)):eY D C z acc ():=by
 obtain ⟨p,e,h⟩:=h;cases p;cases e;exact ⟨λa q=>h.n a (q.imp id λq=>bI q.1),h.o⟩
theorem wo(h:aV sc false elt m)(D:Addr):Ct sc D (λenv=>do let _ <-call (.builtin "list.append") [.ref D, <-eval elt env]) (vp m):=λk z acc Q E dl w=>by
 refine wpAny_bind (snd dm ji h.qM dl.r w λv z' x w U hr hv=>?_);refine Po.guard w λg1 w=>?_;have dl:=eY.of hr;refine ae λaA=>?_;obtain ⟨items,ep,a1,a2⟩:=dl.o;refine aA ?_;refine wpAny_bind (Kl<|ud a1 (by rw [<-eA, <-a2.len];exact bE g1) λh' n' b1 b2=>wpAny_pure ?_);obtain ⟨I,A⟩:=z'.calm (.at dl.w b2.extBut) z'.s.toks;exact w.ok' rfl ⟨_,_,_,_,I⟩ A.lax (v:=()) ⟨dl.n,items.push x,n',b1,by rw [aaz];exact a2.app ⟨x,[],rfl,hv,rfl⟩⟩
theorem Cu{Zs:MP.T}(qh:gG sc tp cP m2)(Ey:pS cP)(Sq:eH false sc t2 Zs)(hc2:Ref true kM sc false (λenv=>jN jt env) cm2)(he:aV sc false elt me)
  (htp:tp=true->IsTup t2) (D:Addr):
  Ct sc D (OE (.ListComp elt [⟨t,iter,ifs,0⟩,⟨t2,cP,jt,0⟩] scope pos) cP (.ref D)) (λacc=>aF m2 λs2=>compLoop cJ 0 Zs s2 cm2 (vp me) acc):=λk z acc Q E dl w=>by
 have QF: ∀b∈[D],z.y.W b=none:=λb hb=>dC.mp hb▸dl.w;have hl1: ∀b∈[D], ∃o,z.s.heap.get? b=some o/\o.cls≠ .type "frame":=λb hb=>dC.mp hb▸dl.live;obtain ⟨Ih,A1⟩:=z.hold QF;refine wpAny_bind (qh k (z.re _ Ih) _ _ ⟨w.fits.left,λsrc z' x e A hr=>?_,λc u z' v e l=>w.exc c u z' v (by show (m2 k.cf z.ρ z.H).bind _=_;rw [show m2 k.cf z.ρ z.H=_ from e];rfl) (A1.toLe.trans l)⟩);refine ae λaA=>?_;obtain ⟨I2,A2,l,kk⟩:=z.drop QF hl1 A;refine aA ?_;have w:=Po.step (z':=z'.re _ I2) w e A2.lax;have Zt:=dl.keep (z':=z'.re _ I2) A2.toUp (Wd.fh bj) (kk D bj);refine (cX ((xD (Ey k.C.env x) ((fm ?_)))));refine hr _ _ λit fp St Mid h' W hst hk hF=>?_;have hDf:D∉fp:=λhm=>by
  obtain ⟨items,ep,a1,_⟩:=dl.o;have e:=A.h D {cls:=.type "list",data:=.seq items ep} ((Wd.oG bj).trans (by rw [a1];rfl));exact bw ((hF D hm).symm.trans e)
 obtain ⟨I3,A3⟩:=Z.iR (z'.re _ I2) hk z'.s.toks;have dl3:=Zt.keep (z':=⟨_,z'.ρ,z'.H,_,I3⟩) (Up.refl _) Zt.w (hk D);have loop:=rX (k:=k) (z:=⟨_,z'.ρ,z'.H,_,I3⟩) Sq hc2 (wo he D) (JK elt t iter t2 cP ifs jt scope pos (.ref it) (.ref D) k.C.env) W htp hDf l.up (w.mH A3.lax).n hst (λb hb=>l.n b (hF b hb)) dl3;refine wpAny_bind (wpAny_runOwn (codeAny_mono (ue loop (W.self 0 _ _ _ hst loop)) λr s2 hc=>?_));induction r with
 |ok f=>exact wpAny_pure hc
 |error e=>exact hc
end
theorem iB{f:α->β}{l:List α}:aU (l.map f) i=(aU l i).map f:=by rw [cL,cL,rh]
theorem oR(h:x∈l): ∃i,aU l i=some x:=(Fm.mp h).imp λi e=>(cL ..).trans e
theorem Ay{l:List α}{r:List β}{a:α}{b:β}(h:aU l i=some a)(h':aU r i=some b):(a,b)∈l.zip r:=by
 rw [cL] at h h';exact Fm.mpr ⟨i,List.getElem?_zip_eq_some.mpr ⟨h,h'⟩⟩
theorem dU(h:eZ names=true): ∀x∈names,x.2≠ .cell:=by
 induction names with
 |nil=>exact λU h=>nomatch h
 |cons a r ih=>
  obtain ⟨n,k⟩:=a;have hr:k≠ .cell/\eZ r=true:=by rcases k with _|_<;>first|exact ⟨nofun,h⟩|exact bI h
  exact du.mpr ⟨hr.1,ih hr.2⟩
theorem uf(h:Bu sc x=some i): ∃k,aU sc.names i=some (x,k)/\cU k=true:=by
 have gen: ∀{names:List (Str×NameKind)} {i j:Nat},s7 (sl x) i names=some j-> ∃d k,j=i+d/\aU names d=some (x,k)/\cU k=true:=by
  intro names;induction names with
  |nil=>intro i j h;exact bw h
  |cons a r ih=>
   intro i j h;change cond (bP (sl a.1) (sl x)) (cond (cU a.2) (some i) none) (s7 (sl x) (i+1) r)=some j at h;cases q:bP (sl a.1) (sl x) with
   |true=>
    rw [q] at h;obtain ⟨q',h⟩:=rI (a:=cU a.2) h;cases h;exact ⟨0,a.2,rfl,by rw [<-ig (dP q)];rfl,q'⟩
   |false=>
    rw [q] at h;obtain ⟨d,k',a,b,c⟩:=ih h;exact ⟨d+1,k',by rw [a,hY];rfl,b,c⟩
 refine ae λaA=>?_;obtain ⟨d,k,a,b,c⟩:=gen h;refine aA ?_;rw [fb] at a;subst a;exact ⟨k,b,c⟩
structure OH(sc:abL)(i0:Nat)(names:List (Str×NameKind))(caps:List (Nat×Nat)):Prop where
 a: ∀p∈caps, ∃n d,p.1=i0+d/\aU names d=some (n,.free)/\Bu sc n=some p.2
 b: ∀d n,aU names d=some (n,eQ)-> ∃j,(i0+d,j)∈caps/\Bu sc n=some j
 n:(caps.map (λU=>U.1)).Nodup
theorem OI{G:Prop}(h:fS sc i ((n,k)::r)=some caps)(k1:k≠ .free->fS sc (i+1) r=some caps->G)(k2:k=.free-> ∀j l,Bu sc n=some j->fS sc (i+1) r=some l->caps=(i,j)::l->G):G:=by
 induction k with
 |free=>exact aQ h λj q1 h=>aQ h λl q2 h=>k2 rfl j l q1 q2 (ag h).symm
 |_=>exact k1 nofun h
theorem qj(h:fS sc i names=some caps):OH sc i names caps:=by
 induction names generalizing i caps with
 |nil=>rcases h with _|_;exact ⟨λp hp=>absurd hp eP,λd n h=>bw h,mB⟩
 |cons x r ih=>
  obtain ⟨n,k⟩:=x;refine OI h (λhk h=>?_) λe j l q1 q2 e'=>?_
  ·have o:=ih h;refine ⟨λp hp=>?_,λd m hm=>?_,o.n⟩
   ·obtain ⟨m,d,e,h1,h2⟩:=o.a p hp;exact ⟨m,d+1,by rw [e,hY];rfl,h1,h2⟩
   ·induction d with
    |zero=>rcases hm with _|_;exact (hk rfl).elim
    |succ d=>obtain ⟨j,h1,h2⟩:=o.b d m hm;exact ⟨j,by rw [hY] at h1;exact h1,h2⟩
  ·subst e e';have o:=ih q2;have up: ∀p∈l, ∃m d,p.1=i+d/\0<d/\aU ((n,eQ)::r) d=some (m,.free)/\Bu sc m=some p.2:=λp hp=>by
    obtain ⟨m,d,e,h1,h2⟩:=o.a p hp;exact ⟨m,d+1,by rw [e,hY];rfl,mf _,h1,h2⟩
   refine ⟨du.mpr ⟨⟨n,0,rfl,rfl,q1⟩,λp hp=>?_⟩,λd m hm=>?_,iq.mpr ⟨λhm=>?_,o.n⟩⟩
   ·obtain ⟨m,d,e,_,h⟩:=up p hp;exact ⟨m,d,e,h⟩
   ·induction d with
    |zero=>rcases hm with _|_;exact ⟨j,bj,q1⟩
    |succ d=>obtain ⟨j,h1,h2⟩:=o.b d m hm;exact ⟨j,cb _ (by rw [hY] at h1;exact h1),h2⟩
   ·obtain ⟨p,hp,e⟩:=dy.mp hm;obtain ⟨m,d,e',lt,_⟩:=up p hp;exact vl (kl lt) (e'.symm.trans e)
noncomputable def OJ(env:dq)(x:Str×NameKind):Str×NameKind:=if x.2== .free&&env.scope.kind== .function&&env.kindOf x.1==some .cell then (x.1,.cell) else x
theorem iC(scope:abL)(env:dq):(acA scope env).names=scope.names.map (OJ env):=rfl
theorem ug(env:dq)(n:Str)(k:NameKind): ∃k',OJ env (n,k)=(n,k')/\By k k'/\(k≠ .free->k'=k):=by
 unfold OJ;cases q:(k==eQ&&env.scope.kind== .function&&env.kindOf n==some .cell) with
 |true=>
  have:k=.free:=eq_of_beq (eJ.mp (eJ.mp q).1).1
  subst this;exact ⟨.cell,rfl,rfl,λh=>(h rfl).elim⟩
 |false=>exact ⟨k,rfl,by rcases k with _|_<;>rfl,λU=>rfl⟩
theorem qk(h:aU scope.names i=some (n,k)): ∃k',aU (acA scope env).names i=some (n,k')/\By k k'/\(k≠ .free->k'=k):=by
 obtain ⟨k',e,r⟩:=ug env n k;exact ⟨k',by rw [iC,iB,h, <-e];rfl,r⟩
theorem yM(h:aU (acA scope env).names i=some (n,k')): ∃k,aU scope.names i=some (n,k)/\(k≠ .free->k'=k):=by
 rw [iC,iB] at h;refine ae λaA=>?_;obtain ⟨⟨m,k⟩,q,e⟩:=eR.mp h;obtain ⟨k2,a,b,c⟩:=ug env m k;refine aA ?_;cases a.symm.trans e;exact ⟨k,q,c⟩
theorem EV(hf: ∀x,(f x).1=x.1):dK (l.map f)=dK l:=by
 have nm: ∀(x:List Nat) (l:List (Str×NameKind)),nameIn x (l.map f)=nameIn x l:=λx l=>by
  induction l with
  |nil=>rfl
  |cons a l ih=>exact (congrArg (λn=>cond (bP (sl n) x) true (nameIn x (l.map f))) (hf a)).trans (congrArg (cond (bP (sl a.1) x) true) ih)
 induction l with
 |nil=>rfl
 |cons a r ih=>exact (congrArg (λn=>cond (nameIn (sl n) (r.map f)) false (dK (r.map f))) (hf a)).trans (by rw [nm,ih];rfl)
theorem FE.inner{sc inner:abL}(F:FE env sc)(h:vq inner=true)(hs:cenv.scope=acA inner env)(hg:cenv.globals=env.globals)(hb:cenv.builtins=env.builtins):FE cenv inner:=by
 obtain ⟨a,b,_,_,e⟩:=l8 h;refine ⟨by rw [hs];exact b,hg.trans F.gl,hb.trans F.bl,by rw [hs,iC];exact df ..,λi n k h=>?_,a,e,?_⟩
 ·obtain ⟨k',h1,h2,_⟩:=qk (env:=env) h;exact ⟨k',by rw [hs];exact h1,h2⟩
 ·rw [hs,iC,EV];exact a;exact λx=>(ug env x.1 x.2).elim λk' e=>congrArg (λU=>U.1) e.1
section
variable{i:Nat}{v:V}{l:List (Nat×V)}{ρ:MP.Env}
theorem rZ:(lG ρ l).length=ρ.length:=by
 induction l generalizing ρ with
 |nil=>rfl
 |cons a r ih=>exact ih.trans ie
theorem mj(h:i∉l.map (λU=>U.1)):bh (lG ρ l) i=bh ρ i:=by
 induction l generalizing ρ with
 |nil=>rfl
 |cons a r ih=>exact (ih λhm=>h (cb _ hm)).trans (bD λe=>h (de.mpr (.inl e)))
theorem wu(hn:(l.map (λU=>U.1)).Nodup)(h:(i,v)∈l)(hl:i<ρ.length):bh (lG ρ l) i=.fix v:=by
 induction l generalizing ρ with
 |nil=>cases h
 |cons a r ih=>
  have hn:=iq.mp hn;rcases de.mp h with e|h
  ·subst e;exact (mj hn.1).trans (bu hl)
  ·exact ih hn.2 h (by rw [ie];exact hl)
end
noncomputable def cS(env:dq):List (Str×NameKind)->List (Str×Addr)->List (Str×Addr)
 |[],acc=>acc
 |(n,k)::r,acc=>match k with
  | .free=>(env.cells.lookup n).elim (cS env r acc) λc=>cS env r ((n,c)::acc)
  |_=>cS env r acc
theorem uh(env:dq)(n:Str)(k:NameKind)(r:List (Str×NameKind))(acc:List (Str×Addr)):(∃c,k=.free/\env.cells.lookup n=some c/\cS env ((n,k)::r) acc=cS env r ((n,c)::acc))\/((k=.free->env.cells.lookup n=none)/\cS env ((n,k)::r) acc=cS env r acc):=by
 have e:=λo q=>congrArg (λo=>aaK o (cS env r acc) λc=>cS env r ((n,c)::acc)) (q:env.cells.lookup n=o);induction k with
 |free=>
  cases q:env.cells.lookup n with
  |none=>exact .inr ⟨λU=>rfl,e _ q⟩
  |some c=>exact .inl ⟨c,rfl,rfl,e _ q⟩
 |_=>exact .inr ⟨nofun,rfl⟩
section
variable{env:dq}{names:List (Str×NameKind)}{acc:List (Str×Addr)}
theorem EW(hf: ∀n k cs,f (n,k) cs=if k== .free then (do let c <-cellOf env n;pure (.yield ((n,c)::cs))) else pure (.yield cs))(h: ∀d n,aU names d=some (n,eQ)->(env.cells.lookup n).isSome=true):
  (forIn names acc f:Sem _)=pure (cS env names acc):=by
 induction names generalizing acc with
 |nil=>rw [pj];rfl
 |cons a r ih=>
  obtain ⟨n,k⟩:=a;have hr: ∀d m,aU r d=some (m,eQ)->(env.cells.lookup m).isSome=true:=λd m hm=>h (d+1) m hm;rw [ij,hf];rcases uh env n k r acc with ⟨c,rfl,hc,e⟩|⟨hk,e⟩
  ·have:(cellOf env n:Sem Addr)=pure c:=by unfold cellOf;rw [hc]
   rw [e];simp only [beq_self_eq_true,if_true,this,pure_bind];exact ih hr
  ·have:(k==eQ)=false:=beq_eq_false_iff_ne.mpr λq=>by subst q;have:=h 0 n rfl;rw [hk rfl] at this;exact bI this
   rw [e,this,if_neg (by decide),pure_bind];exact ih hr
theorem ql(h:acc.lookup n=env.cells.lookup n\/ ∃d,aU names d=some (n,eQ))(hs:(env.cells.lookup n).isSome=true):(cS env names acc).lookup n=env.cells.lookup n:=by
 induction names generalizing acc with
 |nil=>exact h.elim id λ⟨d,h⟩=>bw h
 |cons a r ih=>
  obtain ⟨m,k⟩:=a;rcases uh env m k r acc with ⟨c,rfl,hc,e⟩|⟨hk,e⟩
  ·rw [e];by_cases q:n=m
   ·subst q;exact ih (.inl (by rw [mx,beq_self_eq_true,hc]))
   ·have q:=beq_eq_false_iff_ne.mpr q;refine ih (h.imp (λh=>by rw [mx,q];exact h) λ⟨d,h⟩=>?_);induction d with
    |zero=>cases h;rw [beq_self_eq_true] at q;cases q
    |succ d=>exact ⟨d,h⟩
  ·rw [e];refine ih (h.imp id λ⟨d,h⟩=>?_);induction d with
   |zero=>cases h;rw [hk rfl] at hs;exact bI hs
   |succ d=>exact ⟨d,h⟩
end
theorem kX(h: ∀d n,aU inner.names d=some (n,eQ)->(env.cells.lookup n).isSome=true):aed inner env=pure (cS env inner.names []):=by
 unfold aed;show (forIn inner.names [] _>>=λcs=>pure cs:Sem _)=_
 (rewrite [EW (env:=env) (names:=inner.names) (acc:=[]) (λn k cs=>?_) h];try with_reducible rfl)
 ·rfl
 ·rcases k with _|_<;>rfl
theorem lH.ns(l:lH env h): ∃m,h.Ns env.locals m:=l.elim λo l=>l.2.2.elim λes d=>d.elim λep d=>⟨acv es,o,es,ep,l.1,d.1,d.2,λU=>rfl⟩
theorem yN{y:Wd}(e:y.W a=none):(y.gV h).W a=none:=by
 show (y.W a).bind _=_;rw [e];rfl
structure wz(sc inner:abL)(t iter:bp)(ifs:List bp)(caps:List (Nat×Nat))(tp:Bool)(om:M Src)(rY:MP.T)(cm:M Bool):Prop where
 hin:vq inner=true
 hnc:eZ inner.names=true
 Az:fS sc 0 inner.names=some caps
 qh:gG sc tp iter om
 Ey:pS iter
 htp:tp=true->IsTup t
 ht:eH false inner t rY
 hc:Ref true kM inner false (λenv=>jN ifs env) cm
theorem EX{z:Z C}{vs:List V}(F:FE C.env C.sc)(hs:C.sc=sc)(hnc:eZ inner.names=true)(Az:fS sc 0 inner.names=some caps)(lv:vs.length=(caps.map (λU=>U.2)).length)(gv: ∀k i v,aU (caps.map (λU=>U.2)) k=some i->aU vs k=some v->bh z.ρ i=.fix v)
  (c1:cenv.scope=acA inner C.env) (c3:cenv.cells=cS C.env inner.names []) (dB: ∀d x,aU inner.names d=some (x,eQ)->(C.env.cells.lookup x).isSome=true) (i:Nat):yu (z.y.gV z.s.heap) h' cenv (λU=>none) i (bh (lG (eU inner.names.length) ((caps.map (λU=>U.1)).zip vs)) i):=by
 have o:=qj Az;have lz:((caps.map (λU=>U.1)).zip vs).map (λU=>U.1)=caps.map (λU=>U.1):=pd (by rw [lv,df,df];exact eb _);by_cases hi:i∈caps.map (λU=>U.1)
 ·obtain ⟨p,hp,rfl⟩:=dy.mp hi;refine ae λaA=>?_;obtain ⟨x,d,e,NS,Xa⟩:=o.a p hp;refine aA ?_;rw [fb] at e;rw [<-e] at NS;refine ae λb8=>?_;obtain ⟨q,hq⟩:=oR hp;have hq2:aU (caps.map (λU=>U.2)) q=some p.2:=by rw [iB,hq];rfl
  obtain ⟨v,hv⟩:=lM (l:=vs) (i:=q) (by rw [lv];exact dz hq2);refine b8 ?_;rw [wu (by rw [lz];exact o.n) (Ay (by rw [iB,hq];rfl) hv) (by rw [gc];exact dz NS)];refine ae λjT=>?_;obtain ⟨kx,hx3,hx4⟩:=uf Xa;obtain ⟨c,ok,y,a3,a4,Xo,hr⟩:=wj z F (hs▸hx3) hx4 (gv q p.2 v hq2 hv);obtain ⟨k2',r1,r2,_⟩:=qk (env:=C.env) NS;refine jT ?_;exact ⟨x,k2',c,_,y,by rw [c1];exact r1,r2,by rw [c3,ql (.inr ⟨p.1,NS⟩) (dB _ _ NS)];exact a3,az.fY.j _ _ (congrArg bR a4),Xo,hr.mono az.fY⟩
 ·rw [mj (by rw [lz];exact hi),cZ];intro x k hxk hown;rw [c1] at hxk;refine ae λCr=>?_;obtain ⟨k0,z1,z2⟩:=yM hxk;refine Cr ?_;by_cases q:k0=.free
  ·subst q;refine ae λSo=>?_;obtain ⟨j,z3,_⟩:=o.b i x z1;refine So ?_;rw [fb] at z3;exact (hi (dy.mpr ⟨_,z3,rfl⟩)).elim
  ·cases z2 q;have nc:=dU hnc _ (dQ z1);induction k with
   |«local»=>exact .inl rfl
   |cell=>exact (nc rfl).elim
   |free=>exact (q rfl).elim
   |_=>exact bI hown
theorem OL(h:Fits A ((Vg x Vu).bind f)):(∀l ρ H,x=.ok l ρ H->Vg x Vu=.ok (.own (.list l)) Vu H)/\(∀k u ρ H,x=.exc k u ρ H->Vg x Vu=.exc k u Vu H)/\Fits A x:=by
 induction x with
 |bad=>exact h.elim
 |ask=>exact h.elim
 |exc k u ρ H=>exact ⟨nofun,λU U U U e=>by rcases e with _|_;rfl,h⟩
 |ok l ρ H=>
  refine ⟨λU U U e=>?_,nofun,trivial⟩;rcases e with _|_;change bZ (bf l.length) _=_;cases q:bf l.length with
  |true=>rfl
  |false=>change Fits A ((bZ (bf l.length) _).bind f) at h;rw [q] at h;exact h.elim
theorem vV.same(z:Z C)(e:cenv.frame=C.env.frame):vV C.A cenv (z.y.gV z.s.heap):=by
 refine ae λaA=>?_;obtain ⟨e0,r,h1,h2,_⟩:=z.I.frames;obtain ⟨r',g1,g2⟩:=z.calls;refine aA ?_;cases ag (h1.symm.trans g1);exact ⟨e0,r,h1,h2.trans e.symm,λx hx=>⟨(g2 x hx).1,(g2 x hx).2.imp λL q=>⟨q.1,.inr q.2⟩⟩⟩
theorem cK.to(x:cK y h k w v)(u:Up y y')(n: ∀a,y.W a=none->y'.W a=none):cK y' h k w v:=by
 induction x with|mk a b c d e f g=>induction e with|mk e1 e2 e3 e4 e5=>exact .mk a b c d (.mk e1 e2 e3 (n _ e4) e5) (f.to u) (n _ g)
theorem cK.but(x:cK y h k w v)(n: ∀o vs,h.get? L=some o->o.data≠ .fields vs)(s:eC L h h'):cK y h' k w v:=by
 have ne: ∀{a o vs},h.get? a=some o->o.data=.fields vs->h'.get? a=some o:=λe d=>s _ _ (λq=>n _ _ (q▸e) d) e;induction x with|mk a b c d e f g=>induction e with|mk e1 e2 e3 e4 e5=>exact .mk (ne a b) b c d (.mk (ne e1 e2) e2 e3 e4 e5) f g
theorem AA(F:cK z.y z.s.heap k w v)(hq: ∀z':Z C,bY true z z'->z'.ρ=z.ρ->z'.H=z.H->cK z'.y z'.s.heap k w v->E v z'.s):
  wpAny C.M C.A (FK what v cenv:Sem α) P E z.s:=by
 have F0:=F;induction F with|mk a b c d=>
 unfold FK;refine wpAny_bind (Kl<|wpAny_field a b d ?_);rw [if_neg (by simp)];exact wpAny_bind (Kl<|fT F0 λz' A U e2 e3 F=>wpAny_throw (hq z' A e2 e3 F))
section
variable{sc inner:abL}{elt t iter:bp}{ifs:List bp}{rest:List acq}{pos:Pos}{om:M Src}{rY:MP.T}{cm:M Bool}{emit:List V->M (List V)}{em:Addr->dq->Sem Unit}{caps:List (Nat×Nat)}{tp:Bool}
  (c:wz sc inner t iter ifs caps tp om rY cm) (hem: ∀D,Ct inner D (em D) emit)
  (hT: ∀it D env,acP (.ListComp elt (⟨t,iter,ifs,0⟩::rest) inner pos) 0 (.ref it) (.ref D) env=gH (.ListComp elt (⟨t,iter,ifs,0⟩::rest) inner pos) 0 t iter ifs (.ref it) (.ref D) env (em D env))
  {k:Kx sc false} {α γ:Type} {b:Bool} {rel:Rl α γ} {f:R->MP.Env->Hp->Out α} {Q':γ->Shared->Prop} {use:Option (Value->Sem Unit)} {Q:Value->Shared->Prop} {E:Value->Shared->Prop}
  (hval: ∀l D L (z':Z k.C) fl,Po b rel z' (f (.own (.list l)) z'.ρ z'.H) Q' E->bK k.C z' (.own (.list l)) (.ref D)->z'.y.W L=none->L≠D->(∃m,z'.s.heap.Ns L m)->compPost k.M k.A E use Q (.ref D) L (.ok fl) z'.s)
include c hem hT hval
theorem JL{z2:Z k.C}(u0:Up y0 z2.y){St:Nat->Heap->Prop}(W:cY k.C.toSt k.C.A y0 tp it fp src St Mid)(hst:St 0 z2.s.heap)(hF: ∀b∈fp,z2.y.W b=none)
  {vs:List V} (lv:vs.length=(caps.map (λU=>U.2)).length) (gv: ∀k i v,aU (caps.map (λU=>U.2)) k=some i->aU vs k=some v->bh z2.ρ i=.fix v) (w1:Po b rel z2 ((inside inner.names.length caps vs (compLoop cJ 0 rY src cm emit []) k.cf z2.ρ z2.H).bind f) Q' E)
  (dB: ∀d x,aU inner.names d=some (x,eQ)->(k.C.env.cells.lookup x).isSome=true) {D L:Addr} (AB:Keeps z2.s.heap h3) (Xs:h3.get? D=some {cls:=.type "list",data:=.seq #[] 0}) (nD:z2.s.heap.get? D=none) (nL:z2.s.heap.get? L=none) (hDL:L≠D) (hns:h3.Ns L m)
  (c1:cenv.scope=acA inner k.C.env) (c2:cenv.locals=L) (c3:cenv.cells=cS k.C.env inner.names []) (c4:cenv.frame=k.C.env.frame) (c5:cenv.globals=k.C.env.globals) (c6:cenv.builtins=k.C.env.builtins) (hfr:cenv.frame≠some L):
  codeAny k.M k.A (.compStart (.ListComp elt (⟨t,iter,ifs,0⟩::rest) inner pos) 0 (.ref it) (.ref D) cenv) (compPost k.M k.A E use Q (.ref D) L) {z2.s with heap:=h3,toks:=t4}:=by
 obtain ⟨in1,in2,Ss⟩:=OL w1.fits;obtain ⟨I3,bare⟩:=z2.aside;subst c2;have hFE:FE cenv inner:=k.fe.inner c.hin c1 c5 c6;have live:=W.live _ _ hst;have hLf:cenv.locals∉fp:=λhm=>by obtain ⟨o,ho,_⟩:=live _ hm;exact bw (nL.symm.trans ho)
 have hDf:D∉fp:=λhm=>by obtain ⟨o,ho,_⟩:=live _ hm;exact bw (nD.symm.trans ho)
 obtain ⟨I,l⟩:=Zh.enter (S:=k.C.toSt) (A:=k.C.A) (sc:=inner) (env:=cenv) (cx:=λU=>none) (t:=t4) ⟨_,z2.H,z2.s,I3⟩ (.same z2 c4) nL hns (by obtain ⟨o,es,ep,e,d,s,_⟩:=hns;exact ⟨o,e,λq=>(hfr q).elim,es,ep,d,s⟩) AB (λU U e=>nomatch e) (by rw [rZ,gc]) (EX k.fe k.hs c.hnc c.Az lv gv c1 c3 dB);have free: ∀{a},a≠cenv.locals->z2.y.W a=none->((z2.y.gV z2.s.heap).enter cenv.locals λU=>none).W a=none:=λn e=>(rT n rfl).trans (yN e)
 let k2:Kx inner false:=⟨⟨k.C.toSt,k.C.A,cenv,inner⟩,k.n,k.cf,rfl,hFE,k.depth,k.units,λ⟨i,m,h⟩=>(dU c.hnc _ (dQ h) rfl).elim,k.hcf,λU=>k.hh rfl⟩
 have pon:oj (C:=k2.C) false (eY D) ⟨_,_,z2.H,_,I⟩ (compLoop cJ 0 rY src cm emit [] k.cf (lG (eU inner.names.length) ((caps.map (λU=>U.1)).zip vs)) z2.H) (λU s=> ∀fl,compPost k.M k.A E use Q (.ref D) cenv.locals (.ok fl) s) (λe s=>compPost k.M k.A E use Q (.ref D) cenv.locals (.error e) s):=by
  refine ⟨Ss,λacc z4 U e A4 dl fl=>?_,λj u z4 v e l4 F4=>?_⟩
  ·obtain ⟨I4,b4⟩:=z4.leave;obtain ⟨I5,A5,u5,n5⟩:=z2.back (z':=⟨_,z4.H,z4.s,I4⟩) (z4.iz bare (l.trans A4.toLe));refine hval acc D _ ⟨_,z2.ρ,z4.H,z4.s,I5⟩ fl (w1.step (in1 _ _ _ e) A5.lax) ⟨⟨D,0⟩,rfl,gy.keep dl ((jK _).trans u5) λa q=>⟨n5 _ (gY (dl.n a q)),λU e=>e⟩⟩ (n5 _ (jJ z4.I.iK rfl)) hDL z4.I.loc.ns
  ·obtain ⟨I4,b4⟩:=z4.leave;obtain ⟨I5,A5,u5,n5⟩:=z2.back (z':=⟨_,z4.H,z4.s,I4⟩) (z4.iz bare (l.trans l4));have hL:=n5 _ (jJ z4.I.iK rfl);have F5:=F4.to ((jK _).trans u5) λa e=>n5 _ (gY e);obtain ⟨m,hm⟩:=z4.I.loc.ns;have post: ∃m,z4.s.heap.Ns cenv.locals m/\ ∀h',gd cenv.locals z4.s.heap h'-> ∀EY:dq,EY.locals=cenv.locals->wpAny k.M k.A (FK "comprehension.variables-let-go" v EY:Sem Value) (λU U=>False) E {z4.s with heap:=h'}:=by
    refine ⟨m,hm,λh' hs' EY U=>?_⟩;obtain ⟨I6,A6⟩:=Z.calm ⟨_,z2.ρ,z4.H,z4.s,I5⟩ (.at hL hs'.extBut) z4.s.toks;refine AA (z:=⟨_,_,_,_,I6⟩) (F5.but (λo vs e d=>?_) hs'.extBut) λz7 A7 e2 e3 F7=>w1.exc j u z7 v ((congrArg (λU=>U.bind f) (in2 _ _ _ _ e)).trans (by rw [e2,e3];rfl)) ((A5.toLe.trans A6.toLe).trans A7.toLe) F7.Sb;obtain ⟨oL,es,ep,g1,g2,_⟩:=hm;cases ag (g1.symm.trans e);cases g2.symm.trans d
   rcases use with _|_<;>exact post
 have st3:=W.keep _ _ _ hst AB;have loop:=rX (k:=k2) (z:=⟨_,_,z2.H,_,I⟩) c.ht c.hc (hem D) (hT it D cenv) W c.htp hDf ((u0.trans az.fY).trans l.toUp) pon st3 (λb hb=>free (λe=>hLf (e▸hb)) (hF b hb)) ⟨λa q=>(by rcases q with rfl|⟨q,_⟩;exact free hDL.symm (z2.no nD);rcases q with _|_), #[],0,Xs,rfl⟩;refine codeAny_mono (codeAny_compStart_list loop (W.self 0 _ _ _ st3 loop)) λr s5 Vm=>?_;induction r with
 |ok f=>exact Vm f
 |error e=>exact Vm
end
set_option tactic.hygienic true in
theorem r6{em:Addr->dq->Sem Unit}
  (c:wz sc inner t iter ifs caps tp om rY cm) (hem: ∀D,Ct inner D (em D) emit)
  (hT: ∀it D env,acP (.ListComp elt (⟨t,iter,ifs,0⟩::rest) inner pos) 0 (.ref it) (.ref D) env=gH (.ListComp elt (⟨t,iter,ifs,0⟩::rest) inner pos) 0 t iter ifs (.ref it) (.ref D) env (em D env))
  {k:Kx sc false} {z:Z k.C} {rel:Rl α γ} {f:R->MP.Env->Hp->Out α} {Q':γ->Shared->Prop} 
  (w:Po b rel z (((aF om λs=>aF (s6 caps) λvs=>inside inner.names.length caps vs (compLoop cJ 0 rY s cm emit [])) k.cf z.ρ z.H).bind f) Q' E)
  (hval: ∀l D L (z':Z k.C) fl,Po b rel z' (f (.own (.list l)) z'.ρ z'.H) Q' E->bK k.C z' (.own (.list l)) (.ref D)->z'.y.W L=none->L≠D->(∃m,z'.s.heap.Ns L m)->compPost k.M k.A E use Q (.ref D) L (.ok fl) z'.s):
  wpAny k.M k.A (adY (.ListComp elt (⟨t,iter,ifs,0⟩::rest) inner pos) inner k.C.env (firstIterPos (⟨t,iter,ifs,0⟩::rest) pos) (newList []) false (eval iter k.C.env) use) Q E z.s:=by
 refine ae λaA=>?_;obtain ⟨i1,i2,i3,i4,i5⟩:=l8 c.hin;refine aA ?_;have F:=k.fe;have co:=qj c.Az;have OM: ∀j∈caps.map (λU=>U.2),wc k.C.sc j:=λj hj=>by
  obtain ⟨p,hp,rfl⟩:=dy.mp hj;obtain ⟨x,_,_,_,h3⟩:=co.a p hp;rw [k.hs];exact ⟨x,uf h3⟩
 have dB: ∀d x,aU inner.names d=some (x,eQ)->(k.C.env.cells.lookup x).isSome=true:=λd x h=>by
  obtain ⟨j,_,h2⟩:=co.b d x h;obtain ⟨kd,a,b⟩:=uf h2;rw [<-k.hs] at a;exact wh z F a b
 refine wpAny_comprehension_free (g:=⟨t,iter,ifs,0⟩) (gs:=rest) rfl (c.Ey _) (kX dB) i2 (λx hx hl=>?_) ?_
 ·obtain ⟨d,hd⟩:=oR hx;obtain ⟨x1,x2⟩:=x;cases (hl:x2=.local);exact pC i1 hd
 refine one c.qh (f:=λs ρ H=>((gE (caps.map (λU=>U.2)) k.cf ρ H).bind λvs ρ H=>inside inner.names.length caps vs (compLoop cJ 0 rY s cm emit []) k.cf ρ H).bind f) (by rw [<-bind_assoc];exact w) (λsrc z0 x w A0 hr=>?_) λU=>rfl;refine hr _ _ λit fp St Mid h1 W hst hk1 hF=>?_;refine ae λb8=>?_;obtain ⟨I1,A1⟩:=z0.iR hk1 z0.s.toks;obtain ⟨vs,z2,X,e1,lv,gv⟩:=rW F (z:=⟨z0.y,z0.ρ,z0.H,_,I1⟩) (cf:=k.cf) OM w.fits.left.left;have w1:Po b rel z2 ((inside inner.names.length caps vs (compLoop cJ 0 rY src cm emit []) k.cf z2.ρ z2.H).bind f) Q' E:=by
  have w:=w.mH (z':=⟨z0.y,z0.ρ,z0.H,_,I1⟩) A1.lax;rw [bind_assoc] at w;exact w.step e1 X.mH.lax
 induction z0.Oe with|mk f1 f2 f3 f4 f5=>
 refine b8 ?_
 rename_i e0 r L0
 have hL0: ∃o,z0.s.heap.get? L0=some o:=by
  rcases f5 L0 (H5.mpr ⟨e0,bj,f2.trans f3⟩) with q|q
  ·exact z0.I.live q
  ·induction q with|mk q=>exact z0.I.live q
 refine Kl<|ack ?_ (by size_fits);refine Kl<|wpAny_newFunctionEnv (dU c.hnc) (by intro y hy;rcases hy with _|_) (λh3 hns Vv=>?_) i2;dsimp only at hns Vv ⊢;have Su:=da h1 (o:={cls:=.type "list",dict:=none,data:=.seq ([]:List Value).toArray}) rfl;have Vx:(h1.push {cls:=.type "list",dict:=none,data:=.seq ([]:List Value).toArray}).objs.size=h1.objs.size+1:=ip ..;generalize (h1.push {cls:=.type "list",dict:=none,data:=.seq ([]:List Value).toArray}).objs.size=L at hns Vv Vx ⊢;generalize hD:h1.objs.size=D at Su Vx ⊢;have hDL:L≠D:=λe=>aaW D (Vx.symm.trans e);have below: ∀{b o},h1.get? b=some o->b≠L/\b≠D:=λ{b o} ho=>by
  have lt:b<D:=hD▸ik ho;exact ⟨λe=>by rw [e,Vx] at lt;exact px.mpr (tI _) lt,λe=>vy _ (e▸lt)⟩
 have AB:Keeps h1 h3:=λb o ho=>Vv.extBut b o (below ho).1 (cn _ (cn _ ho));have Xs:h3.get? D=some {cls:=.type "list",data:=.seq #[] 0}:=Vv.extBut D _ hDL.symm (cn _ Su);have nL:h1.get? L=none:=by
  cases q:h1.get? L with
  |none=>rfl
  |some o=>exact ((below q).1 rfl).elim
 have nD:h1.get? D=none:=hD▸aN h1;have hs2:z2.s.heap=h1:=by rw [X.s]
 have eS: ∀t,({z0.s with heap:=h3,toks:=t}:Shared)={z2.s with heap:=h3,toks:=t}:=λt=>by rw [X.s]
 show codeAny k.M k.A (.compStart (.ListComp elt (⟨t,iter,ifs,0⟩::rest) inner pos) 0 (.ref it) (.ref D) ({scope:=acA inner k.C.env,locals:=L,globals:=k.C.env.globals,cells:=cS k.C.env inner.names [],qual:=k.C.env.qual,func:=none,code:=k.C.env.code,frame:=k.C.env.frame,builtins:=k.C.env.builtins}:dq)) (compPost k.M k.A E use Q (.ref D) L) {z0.s with heap:=h3,toks:=_};rw [eS];refine JL c hem hT hval (A1.toUp.trans X.mH.toUp) W (hs2▸hst) (λb hb=>X.n b (hF b hb)) lv gv w1 dB (hs2▸AB) Xs (hs2▸nD) (hs2▸nL) hDL hns rfl rfl rfl rfl rfl rfl λe=>?_;obtain ⟨o,ho⟩:=hL0;cases ag (f3.symm.trans e);exact (below (hk1 _ _ ho)).1 rfl
theorem EZ{x:Out α}:(x.bind λa ρ H=>.ok a ρ H)=x:=by
 induction x with
 |ask n k vs H f ih=>exact congrArg (Out.ask n k vs H) (funext ih)
 |_=>rfl
section
variable{C:Cx}{z:Z C}{l:List V}{D L:Addr}{fl:fA}{E:Value->Shared->Prop}
theorem E0(w:Po b bK z (.ok (.own (.list l)) z.ρ z.H) Q E)(hr:bK C z (.own (.list l)) (.ref D))(hL:z.y.W L=none)(hne:L≠D)(hm: ∃m,z.s.heap.Ns L m):compPost C.M C.A E none Q (.ref D) L (.ok fl) z.s:=by
 obtain ⟨m,hm⟩:=hm;refine ⟨m,hm,λh' hs=>?_⟩;obtain ⟨I2,A2⟩:=z.calm (.at hL hs.extBut) z.s.toks;have dl:=eY.of hr;exact w.ok' rfl ⟨_,_,_,_,I2⟩ A2.lax (eY.r (eY.keep (z':=⟨_,_,_,_,I2⟩) dl (Up.refl _) dl.w λo e=>hs.extBut _ _ hne.symm e))
end
section
variable{sc:abL}
inductive ju(sc:abL):bp->M R->Prop
 |mk {inner:abL} {elt t iter:bp} {ifs:List bp} {rest:List acq} {pos:Pos} {om:M Src} {rY:MP.T} {cm:M Bool} {emit:List V->M (List V)} {em:Addr->dq->Sem Unit} {caps:List (Nat×Nat)} {tp:Bool}:
  wz sc inner t iter ifs caps tp om rY cm->(∀D,Ct inner D (em D) emit)->(∀it D env,acP (.ListComp elt (⟨t,iter,ifs,0⟩::rest) inner pos) 0 (.ref it) (.ref D) env=gH (.ListComp elt (⟨t,iter,ifs,0⟩::rest) inner pos) 0 t iter ifs (.ref it) (.ref D) env (em D env))->
  ju sc (.ListComp elt (⟨t,iter,ifs,0⟩::rest) inner pos) (aF om λs=>aF (s6 caps) λvs=>inside inner.names.length caps vs (compLoop cJ 0 rY s cm emit []))
theorem ju.ok(h:ju sc e m):aV sc false e m:=by
 cases h with|mk c hem hT=>exact λk z Q E w=>r6 (Q:=Q) (use:=none) c hem hT (f:=λr ρ H=>.ok r ρ H) (by rw [EZ];exact w) λl D L z' fl w hr hL hne hm=>E0 w hr hL hne hm
section
variable{inner:abL}{elt t iter:bp}{ifs:List bp}{caps:List (Nat×Nat)}{tp:Bool}{om:M Src}{rY:MP.T}{cs:List (M Bool)}{me:M R}(c1:wz sc inner t iter ifs caps tp om rY (n7 cs))(he:aV inner false elt me)
include c1 he
theorem E2:ju sc (.ListComp elt [⟨t,iter,ifs,0⟩] inner pos) (er inner.names.length caps om rY cs me):=.mk c1 (wo he) λit D env=>ET elt t iter ifs inner pos (.ref it) (.ref D) env
theorem E3{Sv:MP.T}(Sw:gG inner tp2 cP Sx)(Sy:pS cP)(Sq:eH false inner t2 Sv)(hc2:Ref true kM inner false (λenv=>jN jt env) (n7 QA))(Xu:tp2=true->IsTup t2):
  ju sc (.ListComp elt [⟨t,iter,ifs,0⟩,⟨t2,cP,jt,0⟩] inner pos) (xO inner.names.length caps om rY cs Sx Sv QA me):=
 .mk c1 (Cu (elt:=elt) (t:=t) (iter:=iter) (ifs:=ifs) (scope:=inner) (pos:=pos) Sw Sy Sq hc2 he Xu) λit D env=>EU elt t iter t2 cP ifs jt inner pos (.ref it) (.ref D) env
end
theorem E4{k:Kx sc false}{z:Z k.C}{D L:Addr}{Q:fA->Shared->Prop}{g:MP.T}(ht:eH false sc t g)(w:Po false bz z ((g (.own (.list l)) k.cf z.ρ z.H).bind λU ρ H=>.ok .next ρ H) Q E)(hr:bK k.C z (.own (.list l)) (.ref D))(hL:z.y.W L=none)(hne:L≠D)(hm: ∃m,z.s.heap.Ns L m):
  compPost k.M k.A E (some (assign t k.C.env)) (λU s=>Q .next s) (.ref D) L (.ok fl) z.s:=by
 refine ae λaA=>?_;obtain ⟨m,oL,es,ep,o1,o2,o3⟩:=hm;have Vt: ∀b∈[L],z.y.W b=none:=λb hb=>dC.mp hb▸hL;obtain ⟨Ih,A1⟩:=z.hold Vt;refine aA ?_;have dl:=eY.of hr;have hD:(z.y.hold z.s.heap [L]).W D=none:=(Wd.fq λq=>hne (dC.mp q).symm).trans dl.w;show wpAny k.M k.A (assign t k.C.env (.ref D)) (λU s''=> ∃m,s''.heap.Ns L m/\ ∀h',gd L s''.heap h'->Q .next {s'' with heap:=h'}) E z.s;refine ht k (z.re _ Ih) (.own (.list l)) (.ref D) _ E (eY.r (eY.keep (z':=z.re _ Ih) dl A1.toUp hD λU e=>e)) ⟨w.fits.left,λu z' U e A U=>?_,λc u z' v e l=>w.exc c u z' v (by rw [show g _ k.cf z.ρ z.H=_ from e];rfl) (A1.toLe.trans l)⟩;refine ae λb8=>?_;obtain ⟨I2,A2,_,kk⟩:=z.Ln Vt (λb hb=>⟨oL,dC.mp hb▸o1⟩) A;have q:=kk L bj _ o1;cases q with|mk q _=>
 refine b8 ?_;refine ⟨acv es,⟨_,es,ep,q,o2,o3.1,λU=>rfl⟩,λh' hs'=>?_⟩;obtain ⟨I3,A3⟩:=Z.calm (z'.re _ I2) (.at (Wd.fh bj) hs'.extBut) z'.s.toks;exact (w.step (z':=z'.re _ I2) (a:=u) e A2).ok' rfl ⟨_,_,_,_,I3⟩ A3.lax .next
theorem E5(elt:bp)(gens:List acq)(inner:abL)(cpos:Pos)(t:bp)(line:Nat)(env:dq):ac3 (.ListComp elt gens inner cpos) (some t) line env=pure false\/ ∃x p,t=.Name x p/\ac3 (.ListComp elt gens inner cpos) (some t) line env=pure true:=by
 unfold ac3;cases t with
 |Name x p=>
  dsimp only;cases q:(env.blockKind== .function&&env.kindOf x==some .local&&p.line==(bp.ListComp elt gens inner cpos).pos.line&& !(inner.names.any λ(n,k)=>n==x&&(k== .local||k== .cell))) with
  |true=>exact .inr ⟨x,p,rfl,rfl⟩
  |false=>exact .inl rfl
 |_=>exact .inl rfl
theorem ju.assign(h:ju sc e m){g:MP.T}(ht:eH false sc tt g)(h0:pO tt)(h2:kU tt e)(pos:Pos):jV false sc false (.Assign [tt] e pos) (af g m):=λk z Q E w=>by
 have sw: ∃el gs i p,e=.ListComp el gs i p:=by cases h;exact ⟨_,_,_,_,rfl⟩
 obtain ⟨el,gs,i,p,rfl⟩:=sw;rcases E5 el gs i p tt pos.line k.C.env with q|⟨x,p',rfl,q⟩
 ·exact pP ht h.ok h0 h2 pos w q
 ·rw [exec_Assign_Name_used x p' _ pos q];refine (cX (wpAny_bind (wpAny_mono ?_ (λU s' hq=>wpAny_pure hq) λU U e=>e)));cases h with|mk c hem hT=>exact wpAny_bind (wpAny_mono (r6 (Q:=λU s=>Q .next s) c hem hT w λl D L z' fl w hr hL hne hm=>E4 ht w hr hL hne hm) (λU s' hq=>wpAny_pure hq) λU U e=>e)
end
end MP
end Mine.Lake
end
section
namespace Mine.Lake
namespace MP
open PySem PySem.W PyProof.Rows Builtin Builtin.ObjectAttr
noncomputable abbrev fP(B:Addr):List Value:=[.ref B,.type "Exception",.type "BaseException",.type "object"]
theorem yO(C B:Addr):(dT C::fP B).contains (.type "Exception")=true:=by rw [hU,hU];rfl
theorem AD(C B:Addr):(dT C::fP B).contains (.type "BaseException")=true:=by rw [hU,hU];rfl
theorem JM(C B:Addr):(dT C::fP B).contains (.type "AttributeError")=false:=by rw [hU,hU];rfl
theorem JN(C B:Addr):(dT C::fP B).contains (.type "NameError")=false:=by rw [hU,hU];rfl
theorem ON(C B:Addr):(dT C::fP B).contains (.type "object")=true:=by rw [hU,hU];rfl
section
variable{prog:Program}{w:abR}{A:Around}{E:Value->Shared->Prop}{h:Heap}{g:Array GenState}{d:Drawn}{t:Nat}{os:acy}
variable{nm q:Str}{C B N:Addr}{bs:List Value}{sn:List Str}{sub:List Value}{ab:Bool}{col:Option Bool}{dd:Option Addr}{k0 k1 k2 k3 k5:Option Value}
abbrev ku(nm q:Str)(C B N:Addr)(bs:List Value)(sn:List Str)(sub:List Value)(ab:Bool)(col:Option Bool)(dd:Option Addr)(k0 k1 k2 k3 k5:Option Value):Obj:=adI nm q C N bs (fP B) true sn sub ab col dd k0 k1 k2 k3 k5 "Exception.__new__"
theorem um{M:ab0}{Q:Unit->Shared->Prop}(hC:h.get? C=some (ku nm q C B N bs sn sub ab col dd k0 k1 k2 k3 k5))(hq:Q () ⟨h,g,d,t,os⟩):ax M A (abV "Exception.__new__" ⟨.ref C::rest,[]⟩) Q E ⟨h,g,d,t,os⟩:=by
 have Fn:=mM;have Sz:=yO C B;have hstar:=Fn.noStar;simp only [abV,Fn.newKind,Fn.newSplit,Fn.newRow]
 repeat (first|refine abP hC ?_|(refine abX hC ?_;rw [Sz])|refine wpAny_staticBase_exc hC ?_|refine adv hC ?_|simp only [bne_self_eq_false,pz,if_false]|wp_step)
 exact hq
theorem OO{R:ab6->Shared->Prop}(hC:h.get? C=some (ku nm q C B N bs sn sub ab col dd k0 k1 k2 k3 k5))
  (hq:R (.ok (.ret (.ref (h.objs.size+1)))) ⟨(h.push {cls:=.type "tuple",data:=.seq rest.toArray}).push
   {cls:=.ref C,data:=.fields #[.ref h.objs.size,.none,.none,.none,.bool false,.none]},g,d,t,os⟩) (hrest:rest.length<=abQ):
  Iy (abJ prog w) A (.builtin "Exception.__new__" ⟨.ref C::rest,[]⟩) R ⟨h,g,d,t,os⟩:=by
 have Fn:=mM;have Zu:=Fn.ends;have Ed:=yO C B;have hcA:=JM C B;have hcN:=JN C B;refine codeAny_builtinAt Fn.entry ?_;unfold Builtin.«BaseException.__new__»;refine aa7 ?_;show PySem.wpAt _ _ _ (stack>>=_) _ _ _;refine aa7 (PySem.wpAt_stack λp below=>aad ?_)
 wp_walk
 refine aad ?_;rw [Fn.owner]
 repeat (first|with_reducible refine wpAny_madeHere_exc Fn.canon hC ?_|with_reducible refine abP hC ?_|(with_reducible refine abX hC ?_;first|rw [Ed]|rw [hcA]|rw [hcN])|wp_step)
 show R _ _;rw [ip];exact hq
theorem uq{Q:Fin->Shared->Prop}{K:Frag}(X:K.In h)
  (hC:h.get? C=some (ku nm q C B N bs sn sub ab col dd k0 k1 k2 k3 k5)) (hi:ab4 K (.ref C) "__init__"=some (some (.ref fI)))
  (hfI:h.get? fI=some oI) (hfc:oI.cls=.type "function")
  (hq: ∀h' e,TK h h' e (.ref C) rest->
   wpAny (abJ prog w) A (call (.ref fI) (.ref e::rest)) (λr s'=>r=.none/\Q (.done (.ret (.ref e))) s') E ⟨h',g,d,t,os⟩) (hrest:rest.length<=abQ):
  wpAny (abJ prog w) A (Builtin.«type.__call__» ⟨.ref C::rest,[]⟩) Q E ⟨h,g,d,t,os⟩:=by
 have F:=mM;have hne:(dT C==FV "type")=false:=rfl;unfold Builtin.«type.__call__»;dsimp only;simp only [hne,pz,if_false];refine wpAny_bind (m:=mroOf (.ref C)) (Kl ?_)
 repeat (first|with_reducible refine abP hC ?_|wp_step)
 refine wpAny_bind (Kl (adv hC ?_));refine (pureO ?_);refine (fm (Kl (vu (Fu (ta _ F.quiet) (um hC (OO hC ?_ hrest))))));dsimp only;have SA:=cn {cls:=.ref C,data:=.fields #[.ref h.objs.size,.none,.none,.none,.bool false,.none]}
  (cn {cls:=.type "tuple",data:=.seq rest.toArray} hC)
 have OP:=cn {cls:=.ref C,data:=.fields #[.ref h.objs.size,.none,.none,.none,.bool false,.none]}
  (cn {cls:=.type "tuple",data:=.seq rest.toArray} hfI)
 have hget:((h.push {cls:=.type "tuple",data:=.seq rest.toArray}).push
   {cls:=.ref C,data:=.fields #[.ref h.objs.size,.none,.none,.none,.bool false,.none]}).get? (h.objs.size+1)=some
   {cls:=.ref C,data:=.fields #[.ref h.objs.size,.none,.none,.none,.bool false,.none]}:=by heap_get
 have hcC:(dT C::fP B).contains (.ref C)=true:=by simp
 have Xv:K.In ((h.push {cls:=.type "tuple",data:=.seq rest.toArray}).push
   {cls:=.ref C,data:=.fields #[.ref h.objs.size,.none,.none,.none,.bool false,.none]}):=λa o e=>cn _ (cn _ (X a o e))
 refine wpAny_bind (m:=acG _ _) (Kl ?_);unfold acG
 repeat (first|with_reducible refine abP hget ?_|(with_reducible refine abX SA ?_;rw [hcC])|wp_step)
 rw [if_neg (by decide)];refine (fm ?_);unfold ac4;refine wpAny_bind (Kl ?_)
 repeat (first|with_reducible refine abP hget ?_|wp_step)
 show ax _ _ (ab5 (.ref C) _) _ _ _;refine (acO Xv hi).here ?_;refine wpAny_holding (wpAny_bind ?_);unfold bindSpecial;refine Kl ((zQ (T:="function") ⟨_,OP,hfc⟩ ?_));rw [if_pos (by decide)];refine cp (sq (hq _ (h.objs.size+1) ⟨λb o hb=>cn _ (cn _ hb),lb (tI _),h.objs.size,hget,lb (eb _),?_⟩) (λr s' hr=>?_))
 ·exact cn _ (y8 rfl rfl)
 ·obtain ⟨rfl,hQ⟩:=hr;exact wpAny_pure (wpAny_pure hQ)
theorem JO{K:Frag}(X:K.In h)
  (hC:h.get? C=some (ku nm q C B N bs sn sub ab col dd k0 k1 k2 k3 k5)) (hi:ab4 K (.ref C) "__init__"=some (some (.ref fI)))
  (hfI:h.get? fI=some oI) (hfc:oI.cls=.type "function")
  (hq: ∀h' e,TK h h' e (.ref C) rest->
   wpAny (abJ prog w) (A.under (.builtin "type.__call__" ⟨.ref C::rest,[]⟩)) (call (.ref fI) (.ref e::rest)) (λr s'=>r=.none/\Q (.ref e) s') E ⟨h',g,d,t,os⟩) (hrest:rest.length<=abQ):
  wpAny (abJ prog w) A (call (.ref C) rest) Q E ⟨h,g,d,t,os⟩:=by
 have f1:=tc_lookup;have f2:=tc_bind (.ref C);have hT:(⟨h,g,d,t,os⟩:Shared).TypeIs (.ref C) "type":=⟨_,hC,rfl⟩;refine wpAny_call (codeAny_of_tree (show wpAny _ _ (callAny (.ref C) _) _ _ _ from Kl ?_))
 repeat (any_goals (first|assumption|with_reducible refine abP hC ?_|wp_step))
 refine ⟨rfl,?_⟩;refine codeAny_call_builtin_at (ta _ (by decide+kernel)) entry_typeCall (Kl<|adl hC (uq X hC hi hfI hfc (λh' e hm=>?_) hrest));exact hq h' e hm
theorem E6:findCls [] (.type "Exception") (.type "type") "__init__"=some (.val (.builtin "Exception.__init__")):=by kernel_rfl
theorem E7{Q:Value×List Value->Shared->Prop}(h:Q (.builtin "Exception.__init__",[]) {s with toks:=s.toks+1}):ax (abJ prog w) A (getMethod (.type "Exception") "__init__" pl) Q E s:=by
 have X:Frag.In [] s.heap:=λU U h=>by exact bw (h)
 have SD:ady (.type "Exception")=pure none:=by unfold ady;dsimp only;rw [show Manifest.isStub "Exception"=false by decide+kernel];rfl
 have ht:ad0 (.type "Exception")=pure (.type "type"):=by first|rfl|kernel_rfl
 have L0:Looks (abJ prog w) s.heap (ad0 (.type "Exception")) (.type "type"):=abu ht;have hg:ab4 [] (.type "type") "__getattribute__"=some (some (.builtin "type.__getattribute__")):=by kernel_rfl
 unfold getMethod specialOf;refine bc (bc (L0.here ((acO X hg).here ?_)));dsimp only;rw [if_pos canon_tga];refine bc (PySem.wpAny_mono (Q:=λv=>Q (v,[])) (E:=E) ?_ (λU U z=>cp z) λU U z=>z);have LO:Looks (abJ prog w) s.heap (ady (.type "Exception")) none:=abu SD;refine cls_open X LO L0 hg (looks_hook X (r:=none) (by rfl)) (by kernel_rfl) E6 ?_;exact cp (cp h)
theorem Cv{M:ab0}{Q:Unit->Shared->Prop}(hC:h.get? C=some (ku nm q C B N bs sn sub ab col dd k0 k1 k2 k3 k5))(he:h.get? e=some oe)(hcls:oe.cls=.ref C)(hq:Q () ⟨h,g,d,t,os⟩):
  ax M A (abV "Exception.__init__" ⟨.ref e::rest,[]⟩) Q E ⟨h,g,d,t,os⟩:=by
 have F:=mM;have Ed:=yO C B;have Xw:=F.noStar;simp only [abV,F.initKind,F.initSplit,F.initRow]
 repeat (first|(with_reducible refine abP he ?_;rw [hcls])|with_reducible refine abP hC ?_|(with_reducible refine abX hC ?_;rw [Ed])|wp_step)
 refine wt ?_
 rewrite [show ∀(a b:String) (n:Nat),Bind.check ⟨.positional,"*","Exception",.self,[⟨"args",.varPos,false⟩]⟩ a b n (aaS (λx=>x.fst) ({pos:=dT e::rest}:Args).kw)=pure () from
  λa b n=>check_star_args _ _ _ _ _ _]
 exact cp hq
theorem E8{vs:Array Value}(hC:h.get? C=some (ku nm q C B N bs sn sub ab col dd k0 k1 k2 k3 k5))(he:h.get? e=some oe)(hc:oe.cls=.ref C)(hd:oe.data=.fields vs)(h0:0<vs.size)
  (hq: ∀h' t',eC e h h'->h'.get? e=some (oe.mapFields (λU=>U.setIfInBounds 0 t'))->Q .none ⟨h',g,d,t,os⟩):ax (abJ prog w) A (call (.builtin "Exception.__init__") [.ref e,v]) Q E ⟨h,g,d,t,os⟩:=by
 have F:=mM;refine vu (vT F.init.plain F.initEntry (Cv hC he hc ?_));refine ae λaA=>?_;obtain ⟨c0,d0,Vj,Zi⟩:=oe;have hd:Vj=.fields vs:=hd;subst hd;refine aA ?_;unfold Builtin.«BaseException.__init__» newTuple;show ax _ _ (newObj (.type "tuple") (.seq [v].toArray)>>=λx=>BaseException.bexcPut (.ref e) 0 x>>=λU=>ret .none) _ _ _;refine bc (ack ?_ (by show 1<=abQ;unfold abQ;decide));have he':=cn (h:=h) {cls:=.type "tuple",data:=.seq [v].toArray} he;unfold BaseException.bexcPut;have h0':vs[0]?=some (vs.getD 0 .none):=Od h0;refine bc ((dj he' rfl h0' (bc (acB he' rfl h0 ?_))));have out:Q .none ⟨(h.push {cls:=.type "tuple",data:=.seq [v].toArray}).update e (oP (·.setIfInBounds 0 (.ref h.objs.size))),g,d,t,os⟩:=by
  refine hq _ (.ref h.objs.size) (λb o hb hb'=>(pw _ _ (Ts hb)).trans (cn _ hb')) ?_;exact ew (oP (·.setIfInBounds 0 (.ref h.objs.size))) he' rfl
 generalize vs.getD 0 .none=old;induction old with
 |ref a=>exact aeb (cp out)
 |_=>exact cp (cp out)
theorem OQ{Q:List Value->Shared->Prop}(hC:h.get? C=some (ku nm q C B N bs sn sub ab col dd k0 k1 k2 k3 k5))
  (hq:Q (.ref C::fP B) ⟨h,g,d,t,os⟩) {M:ab0}:ax M A (mroOf (.ref C)) Q E ⟨h,g,d,t,os⟩:=wpAny_mroOf_exc hC hq
theorem wA{M:ab0}{Q:Unit->Shared->Prop}(hC:h.get? C=some (ku nm q C B N bs sn sub ab col dd k0 k1 k2 k3 k5))(hx:h.get? x=some o)(hc:o.cls=.ref C)(hq:Q () ⟨h,g,d,t,os⟩):
  ax M A (abV "object.__setattr__" ⟨[.ref x,nameV,v],[]⟩) Q E ⟨h,g,d,t,os⟩:=by
 have SF:=y4;have Ed:=ON C B;have ha:=SF.args (.ref x) nameV v;simp only [abV,SF.kind,SF.split];refine bc ?_
 ·unfold acG
  repeat (first|(with_reducible refine abP hx ?_;rw [hc])|(with_reducible refine abX hC ?_;rw [Ed])|wp_step)
  exact hq
theorem wB{Q:Fin->Shared->Prop}{K:Frag}(X:K.In h)
  (hC:h.get? C=some (ku nm q C B N bs sn sub ab col dd k0 k1 k2 k3 k5)) (hna:ab4 K (.ref C) name=some none) (I:h.InstFk x C mA)
  (hq: ∀h' tk',h'.InstFk x C (λy=>if y=name then some v else mA y)->
   (∀b o,b≠x->(∀o₀ dx,h.get? x=some o₀->o₀.dict=some dx->b≠dx)->h.get? b=some o->h'.get? b=some o)->
   (∀o₀,h.get? x=some o₀-> ∃o₁,h'.get? x=some o₁/\o₁.cls=o₀.cls/\o₁.data=o₀.data/\o₁.slots=o₀.slots/\ ∀dx,o₀.dict=some dx->o₁.dict=some dx)->
   (∀o₁ dx,h'.get? x=some o₁->o₁.dict=some dx->(∃o₀,h.get? x=some o₀/\o₀.dict=some dx)\/h.get? dx=none)->Q (.done (.ret .none)) ⟨h',g,d,tk',os⟩) (hw:Oy mA ns) (hsz:ns.length<=abQ):
  ax (abJ prog w) A (Builtin.«object.__setattr__» ⟨[.ref x,.str name tk,v],[]⟩) Q E ⟨h,g,d,t,os⟩:=by
 have SF:=y4;refine ae λaA=>?_;obtain ⟨o,hx,hc,hnc,hd⟩:=I;refine aA ?_;have hpass:=SF.passes (.ref x);have look: ∀{A:Around} {Q:Option Value->Shared->Prop} {E:Value->Shared->Prop},Q none ⟨h,g,d,t,os⟩->ax (abJ prog w) A (ab5 (.ref C) name) Q E ⟨h,g,d,t,os⟩:=λhq=>(acO X hna).at hq;unfold Builtin.«object.__setattr__»
 repeat (first|rw [refuse_eq]|(rw [refuseLoop_ref,refuseLoop_ref,hpass])|(with_reducible refine abP hx ?_;rw [hc])|with_reducible refine OQ hC ?_|with_reducible refine look ?_|wp_step)
 rcases hd with ⟨hdn,hmA⟩|⟨dx,hdx,hne,hns,hed⟩
 ·rw [hdn,if_neg (by simp [typeHasDict])];split
  ·rename_i hcd
   exact bw (hcd)
  split
  ·rename_i c hcd
   exact absurd hcd (hnc c)
  ·have LK:(h.push {cls:=.type "dict",data:=.dict #[]}).get? x=some o:=cn _ hx;have hxs:x≠h.objs.size:=ll (ik hx);refine bc (wpAny_alloc' ?_);refine bc (wpAny_update' LK ?_);refine cp ?_;have hgd:((h.push {cls:=.type "dict",data:=.dict #[]}).update x λo=>{cls:=o.cls,dict:=some h.objs.size,data:=o.data,slots:=o.slots}).get? h.objs.size
     =some {cls:=.type "dict",data:=.dict #[]}:=
    (wy _ _ _ _ hxs.symm).trans (y8 rfl rfl)
   have hnd:((h.push {cls:=.type "dict",data:=.dict #[]}).update x λo=>{cls:=o.cls,dict:=some h.objs.size,data:=o.data,slots:=o.slots}).Ns h.objs.size (λU=>none):=
    ⟨_, #[],_,hgd,rfl,λe he=>absurd he (by simp),λU=>rfl⟩
   show ax _ _ (storeInDict h.objs.size (.str name tk) name v) _ _ _;unfold storeInDict newKeyGuard;refine (rm (bc (wpAny_nsSet1EFk (aax hnd) λh' hn' hs yP=>?_)));refine ae λb8=>?_;obtain ⟨oD,esD,epD,Xx,Xy,Xz⟩:=hn'.count (abH name v Within.nil);refine b8 ?_;refine bc (adz Xx (by rw [Xy];exact pastItsLine_dict (bt Xz (by rw [aaX,w8,aea];lia))) ?_)
   wp_walk
   have hx':h'.get? x=some {cls:=o.cls,dict:=some h.objs.size,data:=o.data,slots:=o.slots}:=?_;refine hq h' _ ⟨{cls:=o.cls,dict:=some h.objs.size,data:=o.data,slots:=o.slots},hx',hc,hnc,.inr ⟨h.objs.size,rfl,hxs.symm,?_,(let ⟨od',e',c',d'⟩:=yP _ hgd;⟨od',e',c',d'⟩)⟩⟩ (λb ob hbx U hb=>?_)
    (λo₀ h₀=>by obtain rfl:o=o₀:=ag (hx.symm.trans h₀);exact ⟨_,hx',rfl,rfl,rfl,λdx e=>by rw [hdn] at e;exact bw (e)⟩) (λo₁ dx h₁ e=>by rw [hx'] at h₁;rcases h₁ with _|_;rcases e with _|_;exact .inr (aN h))
   ·obtain ⟨o',es,ep,e1,e2,e3,eu,e4⟩:=hn';exact ⟨o',es,ep,e1,e2,e3,eu,λy=>by rw [e4 y];by_cases hy:y=name<;>simp [hy,hmA]⟩
   ·exact (hs.2 b (ll (ik hb))).trans ((wy _ _ _ _ hbx).trans (cn _ hb))
   ·refine (hs.2 x hxs).trans (ew _ LK ?_);have hfr:=(Heap.get?_some_iff.mp hx).2;refine ae λjT=>?_;obtain ⟨oc,od,odt,osl⟩:=o;refine jT ?_;rcases odt with _|_<;>first|rfl|exact hfr
 ·rw [hdx];refine cp ?_;show ax _ _ (storeInDict dx (.str name tk) name v) _ _ _;unfold storeInDict newKeyGuard;refine (rm (bc (wpAny_nsSet1EFk hns λh' hn' hs yP=>?_)));refine ae λCr=>?_;obtain ⟨oD,esD,epD,Xx,Xy,Xz⟩:=hn'.count (abH name v hw);refine Cr ?_;refine bc (adz Xx (by rw [Xy];exact pastItsLine_dict (bt Xz (by rw [aaX];lia))) ?_)
  wp_walk
  refine hq h' _ ⟨o,(hs.2 x hne.symm).trans hx,hc,hnc,.inr ⟨dx,hdx,hne,hn',(let ⟨od,e,c,dd⟩:=hed;let ⟨od',e',c',d'⟩:=yP od e;⟨od',e',c'.trans c,d'.trans dd⟩)⟩⟩ (λb ob U hbd hb=>?_)
   (λo₀ h₀=>⟨o₀,(hs.2 x hne.symm).trans h₀,rfl,rfl,rfl,λU e=>e⟩) (λo₁ Zv h₁ e=>by rw [(hs.2 x hne.symm).trans hx] at h₁;rcases h₁ with _|_;exact .inl ⟨o,hx,e⟩)
  exact (hs.2 b (hbd o dx hx hdx)).trans hb
theorem E9{Q:Unit->Shared->Prop}{K:Frag}(X:K.In h)
  (hC:h.get? C=some (ku nm q C B N bs sn sub ab col dd k0 k1 k2 k3 k5)) (QG:ab4 K (.ref C) "__setattr__"=some (some (.builtin "object.__setattr__"))) (hna:ab4 K (.ref C) name=some none) (I:h.InstFk x C mA)
  (hq: ∀h' tk',h'.InstFk x C (λy=>if y=name then some v else mA y)->
   (∀b o,b≠x->(∀o₀ dx,h.get? x=some o₀->o₀.dict=some dx->b≠dx)->h.get? b=some o->h'.get? b=some o)->
   (∀o₀,h.get? x=some o₀-> ∃o₁,h'.get? x=some o₁/\o₁.cls=o₀.cls/\o₁.data=o₀.data/\o₁.slots=o₀.slots/\ ∀dx,o₀.dict=some dx->o₁.dict=some dx)->
   (∀o₁ dx,h'.get? x=some o₁->o₁.dict=some dx->(∃o₀,h.get? x=some o₀/\o₀.dict=some dx)\/h.get? dx=none)->Q () ⟨h',g,d,tk',os⟩) (hw:Oy mA ns) (hsz:ns.length<=abQ):
  ax (abJ prog w) A (adM (.ref x) name v) Q E ⟨h,g,d,t,os⟩:=by
 have SF:=y4;refine ae λaA=>?_;obtain ⟨o,hx,hc,_⟩:=id I;refine aA ?_;have f3:=SF.slot.bind (.ref x);have look: ∀{A:Around} {Q:Option Value->Shared->Prop} {E:Value->Shared->Prop} {g d t os},Q (some (.builtin "object.__setattr__")) ⟨h,g,d,t,os⟩->ax (abJ prog w) A (ab5 (.ref C) "__setattr__") Q E ⟨h,g,d,t,os⟩:=λhq=>(acO X QG).at hq;unfold adM ac4 specialOf
 repeat (any_goals (first|assumption|(with_reducible refine abP hx ?_;rw [hc])|with_reducible refine look ?_|wp_step))
 refine vT SF.slot.plain SF.entry (wA hC hx hc (wB X hC hna I (λh' tk' I' hk hsame hnew=>?_) hw hsz))
 repeat (any_goals (first|assumption|wp_step))
 exact hq h' tk' I' hk hsame hnew
end
end MP
end Mine.Lake
end
section
namespace Mine.Lake
namespace MP
open PySem PySem.W PyProof.Rows
def qm(body:List ec):Prop:= ∃p1 p2 p3 p4 p5 p6 p7 p8 p9 Vy q1 q2 q3 q4:Pos,p2.endLine=p5.line/\
 body=[.Expr (.Call (.Attribute (.Name "Exception" p1) "__init__" p2) [.Name "self" p3,.Name "what" p4] [] p5) p6,.Assign [.Attribute (.Name "self" p7) "what" p8] (.Name "what" p9) Vy,.Assign [.Attribute (.Name "self" q1) "at" q2] (.Name "at" q3) q4]
inductive nF(P:abK)(k:Nat):Prop
 |mk {fI oI as body sc i0 i1 i2}:ab4 (cG P) (.ref (cB k)) "__setattr__"=some (some (.builtin "object.__setattr__"))->ab4 (cG P) (.ref (cB k)) "at"=some none->ab4 (cG P) (.ref (cB k)) "__init__"=some (some (.ref fI))->bq P fI=some oI->oI.cls=.type "function"->
  (∀y:Wd,(∀a o,bq P a=some o->y.J a=some o)->Oo y fI as body sc [.tup [.int 0,.int 0]])->pW as sc=true->as.map (λU=>U.arg)=(["self","what","at"]:List Str)->qm body->fG sc "Exception"=true->iQ sc "self"=some i0->iQ sc "what"=some i1->iQ sc "at"=some i2->nF P k
theorem Fb(P:abK):ko P abN "Exception"=none:=by kernel_rfl
theorem Cw(P:abK):ko P abW "Exception"=some (.type "Exception"):=by kernel_rfl
structure SE(y:Wd)(h:Heap)(k:Nat)(e:Addr)(m:Str->Option Value):Prop where
 w:y.W e=none
 inst:h.InstFk e (cB k) m
 fields: ∃o t,h.get? e=some o/\o.data=.fields #[t,.none,.none,.none,.bool false,.none]
 free: ∀o d,h.get? e=some o->o.dict=some d->y.W d=none
theorem jv: ∀x∈([.Name a p,.Name b q]:List bp),Plain x:=Au (λU U=>rfl) λU U=>rfl
section
variable{C:Cx}{z:Z C}{k:Nat}{e:Addr}{m:Str->Option Value}{i0 i1:Nat}{v:Value}{Q:fA->Shared->Prop}{E:Value->Shared->Prop}
theorem jO(F:FE C.env C.sc)(hx:iQ C.sc x=some i)(hv:dH z i v){Q E:Value->Shared->Prop}(hq:Q v z.s):ax C.M C.A (eval (.Name x pos) C.env) Q E z.s:=
 (cV hx).elim λU h=>pD F h.1 hv hq
theorem wC(F:FE C.env C.sc)(QG:ab4 (cG C.P) (.ref (cB k)) "__setattr__"=some (some (.builtin "object.__setattr__")))(X:SE z.y z.s.heap k e m)(h0:iQ C.sc "self"=some i0)(h1:iQ C.sc y=some i1)(hself:dH z i0 (.ref e))(hv:dH z i1 v)
  (hn:ab4 (cG C.P) (.ref (cB k)) name=some none) (hw:Oy m ["what","at"]) 
  (hq: ∀h' t I,bY true z ⟨z.y,z.ρ,z.H,{z.s with heap:=h',toks:=t},I⟩->SE z.y h' k e (λx=>if x=name then some v else m x)->Q .next {z.s with heap:=h',toks:=t}):
  ax C.M C.A (exec (.Assign [.Attribute (.Name "self" q1) name q2] (.Name y q3) q4) C.env) Q E z.s:=by
 rw [adE];refine (MG ?_);show ax C.M C.A (ac3 (.Name y q3) (some (.Attribute (.Name "self" q1) name q2)) q4.line C.env>>=_) _ _ _;refine (rm ?_);show ax C.M C.A (do let w <-eval (.Name y q3) C.env;ac7 C.env w (<-acf [.Attribute (.Name "self" q1) name q2] (.Name y q3) C.env) ((ab9 [.Attribute (.Name "self" q1) name q2] C.env).map (λU=>U.2))) _ _ _;refine bc (jO F h1 hv ?_);refine (rm ?_);show ax C.M C.A (assign (.Attribute (.Name "self" q1) name q2) C.env v>>=λU=>(pure tx:Sem fA)) _ _ _;refine bc (PySem.W.kas_attr (jO F h0 hself ?_));have hC:=z.base (iu C.P k);refine E9 (lX z) hC QG hn X.inst (λh' tk' I' k1 k2 k3=>?_) hw (by unfold abQ;decide);have kc:Calm z.y z.s.heap h':=λa x e'=>.of λo ho=>k1 a o (λq=>by subst q;exact bw (X.w.symm.trans e')) (λo₀ dx a1 a2 q=>by subst q;cases (X.free _ _ a1 a2).symm.trans e') ho;obtain ⟨I2,A2⟩:=z.calm kc tk';refine cp (hq h' tk' I2 A2 ⟨X.w,I',?_,λo d a1 a2=>?_⟩)
 ·obtain ⟨o,t,a1,a2⟩:=X.fields;refine ae λaA=>?_;obtain ⟨o1,b1,_,b3,_⟩:=k2 o a1;refine aA ?_;exact ⟨o1,t,b1,b3.trans a2⟩
 ·rcases k3 o d a1 a2 with ⟨o0,c1,c2⟩|c
  ·exact X.free _ _ c1 c2
  ·exact z.no c
theorem Cy(F:FE C.env C.sc)(X:SE z.y z.s.heap k e m)(hm: ∀x,m x=none)(hg:fG C.sc "Exception"=true)(h0:iQ C.sc "self"=some i0)(h1:iQ C.sc "what"=some i1)(hself:dH z i0 (.ref e))(hv:dH z i1 v)(hl:p2.endLine=p5.line)
  (hq: ∀h' t I,bY true z ⟨z.y,z.ρ,z.H,{z.s with heap:=h',toks:=t},I⟩->SE z.y h' k e m->Q .next {z.s with heap:=h',toks:=t}):
  wpAny C.M C.A (exec (.Expr (.Call (.Attribute (.Name "Exception" p1) "__init__" p2) [.Name "self" p3,.Name "what" p4] [] p5) p6) C.env) Q E z.s:=by
 have hi:adJ C.env=false:=by unfold adJ;simp [F.kind]
 rw [exec_Expr C.env _ p6 hi rfl];refine (cX (wpAny_bind ?_));refine call_meth rfl jv rfl (by rw [hl];exact lL _) ?_;refine Kl<|eX F hg (.inr ⟨Fb _,Cw _⟩) λpl=>Kl<|E7 ?_;obtain ⟨I1,A1⟩:=z.tok (z.s.toks+1);refine callWith_builtin (plain_all jv).2 (l7 jv ?_);show wpAny _ _ (acd [(false,_),(false,_)]) _ _ _;refine spliced_cons (Kl<|jO (z:=⟨z.y,z.ρ,z.H,_,I1⟩) F h0 (A1.v rfl _ _ hself) (spliced_cons (Kl<|jO (z:=⟨z.y,z.ρ,z.H,_,I1⟩) F h1 (A1.v rfl _ _ hv) (spliced_nil ?_))));refine ae λaA=>?_;obtain ⟨o,t,f1,f2⟩:=X.fields;obtain ⟨o',x1,x2,x3,x4⟩:=X.inst;refine aA ?_;cases ag (x1.symm.trans f1);refine Kl<|E8 (z.base (iu C.P k)) f1 x2 f2 (show 0<6 by decide) λh' t' k1 k2=>?_;obtain ⟨I2,A2⟩:=z.calm (.at X.w k1) (z.s.toks+1);have dd: ∀d,(o.mapFields (λU=>U.setIfInBounds 0 t')).dict=some d->o.dict=some d:=λd q=>by obtain ⟨c1,d1,Xc,Xd⟩:=o;cases f2;exact q
 refine Kl<|wpAny_dropValue (hq h' (z.s.toks+1) I2 A2 ⟨X.w,⟨_,k2,(Kj _ _).trans x2,λc q=>?_,?_⟩,⟨_,t',k2,?_⟩,λo1 d a1 a2=>?_⟩)
 ·rw [qr f2] at q;cases q
 ·rcases x4 with ⟨x4,_⟩|⟨d,x4,x5,x6,x7⟩
  ·exact .inl ⟨by obtain ⟨c1,d1,Xc,Xd⟩:=o;cases f2;exact x4,hm⟩
  ·have hd:d≠e:=x5;refine .inr ⟨d,by obtain ⟨c1,d1,Xc,Xd⟩:=o;cases f2;exact x4,x5,?_,?_⟩
   ·obtain ⟨od,es,ep,e1,r⟩:=x6;exact ⟨od,es,ep,k1 _ _ hd e1,r⟩
   ·obtain ⟨od,e1,r⟩:=x7;exact ⟨od,k1 _ _ hd e1,r⟩
 ·(rewrite [qr f2];try with_reducible rfl);rfl
 ·cases ag (k2.symm.trans a1);exact X.free o d f1 (dd d a2)
end
theorem yQ(h1:iQ sc x=some i)(h2:iQ sc y=some j)(hn:x≠y):i≠j:=λe=>by
 subst e;obtain ⟨k,a,_⟩:=cV h1;obtain ⟨k',b,_⟩:=cV h2;cases ag (a.symm.trans b);exact hn rfl
theorem Fc{z:Z C}{i0 i1 i2:Nat}{Q:fA->Shared->Prop}(F:FE C.env C.sc)(QG:ab4 (cG C.P) (.ref (cB k)) "__setattr__"=some (some (.builtin "object.__setattr__")))(hat:ab4 (cG C.P) (.ref (cB k)) "at"=some none)
  (hb:qm body) (hg:fG C.sc "Exception"=true) (l0:iQ C.sc "self"=some i0) (l1:iQ C.sc "what"=some i1) (l2:iQ C.sc "at"=some i2) (X:SE z.y z.s.heap k e λU=>none) (W0:dH z i0 (.ref e)) (W1:dH z i1 x) (W2:dH z i2 d0) (hx:az z.y wv x)
  (hq: ∀(z':Z C) o t,z'.ρ=z.ρ->z'.H=z.H->Le z.y z'.y->z'.s.heap.get? e=some o->o.cls=.ref (cB k)->o.data=.fields #[t,.none,.none,.none,.bool false,.none]->Bx z'.y z'.s.heap k wv (.ref e)->Q .next z'.s):
  wpAny C.M C.A (acr body C.env) Q E z.s:=by
 refine ae λaA=>?_;obtain ⟨p1,p2,p3,p4,p5,p6,p7,p8,p9,Vy,q1,q2,q3,q4,hl,rfl⟩:=hb;refine aA ?_;refine wpAny_execs_cons (Cy F X (λU=>rfl) hg l0 l1 W0 W1 hl λh5 t5 I5 A5 M5=>?_);refine wpAny_execs_cons (Kl<|wC (z:=⟨z.y,z.ρ,z.H,_,I5⟩) F QG M5 l0 l1 (A5.v rfl _ _ W0) (A5.v rfl _ _ W1) (Lu C.P k).1 (λy hy=>(hy rfl).elim) λh6 t6 I6 A6 M6=>?_);refine wpAny_execs_cons (Kl<|wC (z:=⟨z.y,z.ρ,z.H,_,I6⟩) F QG M6 l0 l2 (A6.v rfl _ _ (A5.v rfl _ _ W0)) (A6.v rfl _ _ (A5.v rfl _ _ W2)) hat (λy hy=>by
  by_cases q:y="what"
  ·rw [q];exact bj
  ·exact (hy (if_neg q)).elim) λh7 t7 I7 A7 M7=>?_)
 refine Kl<|acK ?_;refine ae λb8=>?_;obtain ⟨o,b1,b2,b3,b4⟩:=M7.inst;obtain ⟨o',t,b5,b6⟩:=M7.fields;refine b8 ?_;cases ag (b5.symm.trans b1);rcases b4 with ⟨_,b4⟩|⟨d,e1,e2,⟨od,es,ep,e3,e4,e5,e6,e7⟩,⟨od',e8,e9,e10⟩⟩
 ·have b4:(if ("what":Str)="at" then some d0 else if ("what":Str)="what" then some x else none)=none:=b4 "what";rw [if_neg (by decide),if_pos rfl] at b4;cases b4
 ·cases ag (e3.symm.trans e8);have Zw:=M7.free _ _ b1 e1;have up:Le z.y (z.y.set d (some (.kept od))):=Le.set Zw;obtain ⟨I8,A8⟩:=Z.more ⟨z.y,z.ρ,z.H,_,I7⟩ (s':={z.s with heap:=h7,toks:=t7}) up (λa x q=>⟨(z.y.cA _ (Wd.ne Zw q)).trans q,λU e=>e⟩) (λa x q=>by
   by_cases p:a=d
   ·subst p;rw [z.y.cC] at q;cases q;exact .inr e3
   ·exact .inl ((z.y.cA _ p).symm.trans q)) rfl
  refine hq ⟨_,z.ρ,z.H,_,I8⟩ o t rfl rfl up b1 b2 b6 (.mk b1 b6 (show 5<6 by decide) .none (.mk b2 e1 (.mk (congrArg bR (z.y.cC _ _)) e9 e4 e5 e7) ?_ (hx.mono up.toUp)) ((z.y.cA _ (Ts e2)).trans M7.w));rw [if_neg (by decide),if_pos rfl]
theorem OR{S:St}{z:Zh S}(h:z.s.heap.get? a=none):z.y.W a=none:=by
 cases q:z.y.W a with
 |none=>rfl
 |some u=>exact (z.I.live q).elim λo w=>bw (h.symm.trans w)
theorem JP(h:aB y [v] xs): ∃d,xs=[d]/\az y v d:=
 h.elim λd h=>h.elim λr h=>⟨d,h.1.trans (congrArg (λU=>d::U) h.2.2),h.2.1⟩
theorem JQ(e:ρ=eU n)(h:bh ρ j=.fix u):False:=by
 rw [e,cZ] at h;cases h
theorem Fd{S:St}{z:Zh S}(X:nF S.P k)(hd:A.depth+1<=950)(fr: ∃r,A.frames=some r/\ ∀e∈r,e.scope.kind≠ .module/\ ∃L,e.frame=some L/\kL z.y.W L)(bare:qY z.y)(hx:az z.y wv x)
  (hq: ∀(z':Zh S) e o t,z'.H=z.H->Le z.y z'.y->z'.s.heap.get? e=some o->o.cls=.ref (cB k)->o.data=.fields #[t,.none,.none,.none,.bool false,.none]->Bx z'.y z'.s.heap k wv (.ref e)->Q (.ref e) z'.s):wpAny S.M A (call (.ref (cB k)) [x]) Q E z.s:=by
 have Oq: ∀{a o},bq S.P a=some o->z.s.heap.get? a=some o:=λh=>z.I.own _ _ (aJ (z.I.base _ _ h));induction X with|@mk fI oI as body sc i0 i1 i2 a0 a4 a1 a2 a3 fn ok a5 hbody a7 l0 l1 l2=>
 have hlen:as.length=3:=by have:=congrArg List.length a5;simpa using this
 have fnJ:=fn z.y z.I.base;have go: ∀h' e,TK z.s.heap h' e (.ref (cB k)) [x]->wpAny S.M (uA A (cB k) [x]) (call (.ref fI) (.ref e::[x])) (λr s'=>r=.none/\Q (.ref e) s') E {z.s with heap:=h'}:=λh' e M0=>by
  obtain ⟨t0,he,_,_⟩:=M0.there;have we:z.y.W e=none:=OR M0.new;have J:=z.iR M0.keeps;unfold call;refine wpAny_runValue (codeAny_mono (R:=λr s'=>match r with| .ok (.ret v)=>v=.none/\Q (.ref e) s'|_=>False) ?_ λr s' hr=>by
   induction r with
   |error e=>exact hr.elim
   |ok f=>rcases f with _|_<;>first|exact hr|exact hr.elim)
  refine m6 (A:=uA A (cB k) [x]) (z:=⟨z.y,z.H,_,J⟩) hd fr fnJ ok (xs:=[.ref e,x]) (by rw [hlen];show 2<=3;decide) (by rw [hlen];show 3<=2+1;decide) (by rw [hlen];show 1<=3;decide) λenv z1 ds F lm e1 e2 l hn k1 hds f hf=>?_;rw [a5,hlen];have hds:=JP hds;refine ae λhG=>?_;obtain ⟨d0,rfl,hd0⟩:=hds;obtain ⟨c0,n0,o0⟩:=cV l0;obtain ⟨c1,n1,o1⟩:=cV l1;obtain ⟨c2,n2,o2⟩:=cV l2;have Zx:=yQ l0 l1 (by decide);have Zy:=yQ l0 l2 (by decide);have Zz:=yQ l1 l2 (by decide);have emp: ∀j u,bh z1.ρ j≠ .fix u:=λj u h=>JQ e1 h;refine hG ?_
  ·show wpAny _ _ (forIn [(("self":Str),dT _),("what",x),("at",d0)] _ f) _ _ z1.s;rw [ij,hf];refine wpAny_bind (wpAny_bind (Kl<|eF F n0 o0 (emp i0) (sl:=.empty) (v:=.ref _) ⟨Le.refl _,λU U h=>h,λU U h=>.inl h,λU U=>rfl,trivial⟩ λh2 t2 I2 V2 P2 K2=>wpAny_pure ?_));dsimp only;rw [ij,hf];refine wpAny_bind (wpAny_bind (Kl<|eF (z:=⟨_,_,_,_,I2⟩) F n1 o1 (λu h=>emp i1 u ((bD Zx.symm).symm.trans h)) (sl:=.val wv) ⟨Le.refl _,λU U h=>h,λU U h=>.inl h,λU U=>rfl,hx.mono l.toUp⟩ λh3 t3 I3 V3 P3 K3=>wpAny_pure ?_));dsimp only;rw [ij,hf];refine wpAny_bind (wpAny_bind (Kl<|eF (z:=⟨_,_,_,_,I3⟩) F n2 o2 (λu h=>emp i2 u ((bD Zy.symm).symm.trans ((bD Zz.symm).symm.trans h))) (sl:=.val (.tup [.int 0,.int 0])) ⟨Le.refl _,λU U h=>h,λU U h=>.inl h,λU U=>rfl,hd0.mono l.toUp⟩ λh4 t4 I4 V4 P4 K4=>wpAny_pure ?_));dsimp only;rw [pj];have Vz:z1.y.W e=none:=ae λq=>bw ((hn _ q we).symm.trans he);refine wpAny_pure ⟨I4.noLimit,codeAny_func ?_⟩;have XA:=K4 _ Vz _ (K3 _ Vz _ (K2 _ Vz _ (k1 _ _ he)));refine Fc (C:=S.into (uA A (cB k) [x]) env sc) (z:=⟨_,_,_,_,I4⟩) F a0 a4 hbody a7 l0 l1 l2 ⟨Vz,⟨_,XA,rfl,λc q=>(by rcases q with _|_),.inl ⟨rfl,λU=>rfl⟩⟩,⟨_,_,XA,rfl⟩,λo d b1 b2=>bw ((congrArg Obj.dict (ag (XA.symm.trans b1))).trans b2)⟩ (P4 _ _ Zy (P3 _ _ Zx V2)) (P4 _ _ Zz V3) V4 (hx.mono l.toUp) λz' o t q1 q2 q3 g1 g2 g3 F7=>?_;obtain ⟨I',b'⟩:=z'.leave;exact ⟨rfl,hq ⟨_,z'.H,z'.s,I'⟩ e o t (q2.trans e2) (z'.iz bare (l.trans q3)) g1 g2 g3 (F7.to (jK _) λa=>gY)⟩
 generalize hs:z.s=s at*;obtain ⟨h,gens,dr,tk,os⟩:=s;exact JO (K:=cG S.P) (λa o e=>Oq (z8 e)) (Oq (iu S.P k)) a1 (Oq a2) a3 go (show 1<=abQ by unfold abQ;decide)
end MP
end Mine.Lake
end
section
namespace Mine.Lake
namespace MP
open PySem PySem.W PyProof.Rows
section
variable{M:ab0}{A:Around}{E:Value->Shared->Prop}{env:dq}
variable{C B:Addr}{o':Option Obj}
theorem yR{Q:fA->Shared->Prop}(hh:A.handled=none)
  (h:wpAny M A x (λv s₁=> ∃e o t,v=.ref e/\s₁.heap.get? C=some (Lr C (fP B) "Exception.__new__" o')/\s₁.heap.get? e=some o/\o.cls=.ref C/\o.data=.fields #[t,.none,.none,.none,.bool false,.none]/\E (.ref e) s₁) E s):
  wpAny M A (raiseStmt env (some x) none) Q E s:=by
 have Ed:=AD C B;unfold raiseStmt;refine wpAny_bind (wpAny_mono h (λv s₁ h₁=>?_) λU U x=>x);refine ae λaA=>?_;obtain ⟨e,o,t,rfl,hC,he,hc,hd,hE⟩:=h₁;obtain ⟨c0,d0,Vj,Zi⟩:=o;refine aA ?_;have hc:c0=.ref C:=hc;have hd:Vj=.fields #[t,.none,.none,.none,.bool false,.none]:=hd;subst hc hd;refine ae λb8=>?_;obtain ⟨hp,g,d,tk,os⟩:=s₁;refine b8 ?_;refine Kl ?_
 repeat (first|with_reducible refine abP he ?_|with_reducible refine abP hC ?_|(with_reducible refine abX hC ?_;rw [Ed])|wp_step)
 exact wpAny_raiseNew_none hh hE
end
theorem Fe(hX: ∀P x k,bX (sl x) gw=some k->nF P k)(hA:aV sc false a m)(h1:Plain a)(hg:fG sc x=true)(hk:bX (sl x) gw=some k)(np cpos pos:Pos):
  jV false sc false (.Raise (some (.Call (.Name x np) [a] [] cpos)) none pos) (cQ k m):=λK z Q E w=>by
 have hs1: ∀e∈[a],Plain e:=λe he=>dC.mp he▸h1;have hplain:=(plain_all (pos:=cpos) (env:=K.C.env) hs1).2;rw [arm_exec_Raise];refine (cX (yR (C:=cB k) (B:=47) (o':=bq K.C.P (cB k)) (K.hh rfl) (wpAny_bind (wpAny_mono (wpAny_Call_ofName (Kl<|eX K.fe (K.hs.symm▸hg) (.inl (Ea K.C.P hk)) ?_)) (λv s₃ h₃=>(cX (wpAny_pure h₃))) λU U x=>x))));unfold ab2;refine (fm (l7 hs1 ?_));rw [h1,jr];refine spliced_cons (one hA.qM w (λv z' xv w U hr=>spliced_nil (w.opt λu e w=>?_)) λU=>rfl);cases lS e;refine (cX ?_);have hC:=z'.base (iu K.C.P k);refine wpAny_bind (Kl<|wpAny_keeperOf_exc hC ?_);obtain ⟨I,bare⟩:=z'.aside;refine wpAny_bind (Fd (S:=K.C.toSt) (z:=⟨_,_,_,I⟩) (hX _ x k hk) (bt (sa (bt (cw _ _) K.depth)) (by decide)) z'.calls bare (hr.mono az.fY) λz2 e o t q1 l g1 g2 g3 F=>?_);refine ae λaA=>?_;obtain ⟨I',A,u',n⟩:=z'.back l;refine aA ?_;exact (fm (wpAny_point (wpAny_pure ⟨e,o,t,rfl,Z.base ⟨_,z'.ρ,z2.H,z2.s,I'⟩ (iu K.C.P k),g1,g2,g3,w.exc k (.str u) ⟨_,z'.ρ,z2.H,z2.s,I'⟩ (.ref e) (congrArg (Out.exc k (V.str u) z'.ρ) q1.symm) A.toLe (F.to u' n)⟩)))
end MP
end Mine.Lake
end
section
namespace Mine.Lake
namespace MP
open PySem PySem.W PyProof.Rows
theorem Ff(hk:adn es)(c:Value)(d:Option Addr)(ep:Nat)(sl): ∃es' HX v,He name ⟨c,d,.dict es ep,sl⟩=⟨c,d,.dict es' HX,sl⟩/\adn es'/\ ∀x,acv es' x=if x=name then v else acv es x:=by
 rw [Obj.dropName_eq];cases hi:es.findIdx? (λU=>U.key.isStr name) with
 |some i=>exact ⟨es.eraseIdxIfInBounds i,ep+1,_,by simp only [aae,hi],hk.erase i,λx=>by
   by_cases hx:x=name
   ·rw [if_pos hx,hx]
   ·rw [if_neg hx,nsFind_erase_other hi hx]⟩
 |none=>exact ⟨es,ep,acv es name,by simp only [aae,hi],hk,λx=>by
   by_cases hx:x=name
   ·rw [if_pos hx,hx]
   ·rw [if_neg hx]⟩
theorem JR{M:ab0}(ho:s.heap.get? a=some o)(hd:o.data=.dict es ep)(hk:adn es)(hs:(acv es name).isSome=true){Q:Bool->Shared->Prop}(hq:Q true {s with heap:=s.heap.update a (He name)}):ax M A (nsDel a name) Q E s:=by
 have e:es.any (λU=>U.key.isStr name)=true:=by
  simp only [acv,findBy,Option.isSome_map,Array.find?_isSome] at hs;obtain ⟨x,hx,hp⟩:=hs;obtain ⟨i,hi,rfl⟩:=Array.mem_iff_getElem.mp hx;exact Array.any_eq_true.mpr ⟨i,hi,hp⟩
 unfold nsDel;refine bc (wpAny_loadPart ho ?_);rw [nsHas_eq];unfold nsHasByArray;rw [hd];show ax _ _ ((if (es.any λx=>x.key.isStr name)=true then _ else _)>>=_) _ _ _;rw [if_pos e];exact (rm (bc (wpAny_updatePart ho (cp hq))))
theorem wD(ho:dK names=true)(h:gu (sl x) names=true)(hn:aU names i=some (x,k)):k=.local:=by
 induction names generalizing i with
 |nil=>exact bI h
 |cons a r ih=>
  obtain ⟨h1,h2⟩:=oh ho;change cond (bP (sl a.1) (sl x)) (DE a.2) (gu (sl x) r)=true at h;induction i with
  |zero=>rcases hn with _|_;rw [lQ] at h;rcases k with _|_<;>first|rfl|exact bI h
  |succ i=>
   cases q:bP (sl a.1) (sl x) with
   |true=>exact (eV (show aU r i=_ from hn) h1 (dP q).symm).elim
   |false=>rw [q] at h;exact ih h2 h hn
section
variable{C:Cx}{z:Z C}{i:Nat}{x:Str}
theorem r7(F:FE C.env C.sc)(hn:aU C.sc.names i=some (x,.local))(u:V):bh z.ρ i≠ .fix u:=λq=>by
 have h:=z.I.vars i;rw [q] at h;obtain ⟨y,v,_⟩:=h;obtain ⟨k',a1,a2,_⟩:=F.at hn;have go: ∀{f u},aY C.env z.y z.s.heap i f u->f=false:=λv=>by
  induction v with
  |loc=>rfl
  |qV b1 b2=>cases ag (a1.symm.trans b1);cases (show k'=.local from a2);exact bI b2
 exact mn (go v)
theorem Cz(F:FE C.env C.sc)(hn:aU C.sc.names i=some (x,.local)){Q:Unit->Shared->Prop}(hq: ∀h' t I,(∀b,z.y.W b=none->Hk z.s.heap h' b)->Q () (Z.s (C:=C) ⟨z.y,put z.ρ i .empty,z.H,{z.s with heap:=h',toks:=t},I⟩)):
  ax C.M A (do acW C.env x .none;acF C.env x pos) Q E z.s:=by
 refine ae λaA=>?_;obtain ⟨k',a1,a2,a3⟩:=F.at hn;refine aA ?_;cases (show k'=.local from a2);have N: ∀{z:Z C} {v},DP z z.y i .empty v:=⟨Le.refl _,λU U h=>h,λU U h=>.inl h,λU U=>rfl,trivial⟩;refine bc (PySem.wpAny_bindName (eF F hn rfl (r7 F hn) N λh2 t2 I2 V2 U P2=>?_));unfold acF unbindName;refine wt ((MH (bc ?_)));unfold deleteName;simp only [a3];rw [if_neg (by rw [F.kind];exact λh=>bI h)];refine ae λb8=>?_;obtain ⟨o,e1,e2,es,ep,e3,e4⟩:=I2.loc;refine b8 ?_;have hs:acv es x=some .none:=by
  obtain ⟨f,v⟩:=V2;generalize hv:some rk=u at v;induction v with
  |loc b1 b2=>cases ag (a1.symm.trans b1);exact (congrFun (tw ⟨o,es,ep,e1,e3,e4,λU=>rfl⟩ b2) x)
  |qV b1 b2=>cases ag (a1.symm.trans b1);exact bI b2
 refine bc (JR e1 e3 e4 (by rw [hs];rfl) ?_);rw [if_neg (by decide)];refine ae λjT=>?_;obtain ⟨c,d,dt,sl⟩:=o;refine jT ?_;rcases e3 with _|_;refine ae λCr=>?_;obtain ⟨es',HX,v,g1,g2,g3⟩:=Ff (name:=x) e4 c d ep sl;refine Cr ?_;have e':=ew (He x) e1 (by rw [g1];rfl);rw [g1] at e';have ns:(h2.update C.env.locals (He x)).Ns C.env.locals (acv es'):=⟨_,es',HX,e',rfl,g2,λU=>rfl⟩;have kk:eC C.env.locals h2 (h2.update C.env.locals (He x)):=(lk ..).extBut;have I3:=Z.bound (z:=⟨_,_,_,_,I2⟩) (v:=.none) N (by rw [I2.rl];exact dz hn) I2.iK (.inl rfl) kk ⟨_,e'⟩ ⟨_,e',e2,es',HX,rfl,g2⟩ (λj f u q V=>V.other (λU U h=>h) I2.iK (.inl rfl) kk (λn m n2 m2=>by
  have:=aY.loc (y:=z.y) n2 ns
  rw [g3,if_neg λe=>q (jl F.DI n2 (e▸a1)),congrFun (tw ⟨_,es,ep,e1,rfl,e4,λU=>rfl⟩ m2) n] at this;exact this) q) (λU=>⟨_,.loc a1 ns⟩) t2
 rw [show put (Z.ρ ⟨_,put z.ρ i .empty,_,_,I2⟩) i .empty=put z.ρ i .empty from oQ] at I3;exact cp (y6 (hq _ _ I3 λb hb o ho=>kk b o (λq=>by subst q;exact bw (hb.symm.trans z.I.iK)) (P2 b hb o ho)))
end
end MP
end Mine.Lake
end
section
namespace Mine.Lake
namespace MP
open PySem PySem.W PyProof.Rows
section
variable{M:ab0}{A:Around}{E:Value->Shared->Prop}{s:Shared}
theorem JS{cs:List Value}{Q:PUnit->Shared->Prop}(hf: ∀c∈cs, ∀u (Q:ForInStep PUnit->Shared->Prop),Q (.yield ⟨⟩) s->wpAny M A (f c u) Q E s)(hq:Q ⟨⟩ s):wpAny M A (forIn cs ⟨⟩ f) Q E s:=by
 induction cs with
 |nil=>rw [pj];exact wpAny_pure hq
 |cons c cs ih=>
  rw [ij];exact wpAny_bind (hf c bj _ _ (ih λc hc=>hf c (cb _ hc)))
theorem Fg(b:Value->Bool){cs:List Value}{Q:Option Bool×Unit->Shared->Prop}
  (hf: ∀c∈cs, ∀r (Q:ForInStep (Option Bool×Unit)->Shared->Prop),Q (if b c=true then .done (some true,()) else .yield (none,())) s->wpAny M A (f c r) Q E s) (hq:Q (if cs.any b=true then (some true,()) else (none,())) s):wpAny M A (forIn cs (none,()) f) Q E s:=by
 induction cs with
 |nil=>rw [pj];exact wpAny_pure hq
 |cons c cs ih=>
  rw [ij];refine wpAny_bind (hf c bj _ _ ?_);rw [Dx] at hq;cases hb:b c with
  |true=>rw [hb,abC,if_pos rfl] at hq;rw [if_pos rfl];exact wpAny_pure hq
  |false=>rw [hb,abq] at hq;rw [if_neg (by decide)];exact ih (λc hc=>hf c (cb _ hc)) hq
inductive yS(h:Heap)(c:Addr):Prop
 |mk {o}:h.get? c=some (Lr c (fP 47) "Exception.__new__" o)->yS h c
theorem yS.isType(h:yS s.heap c){Q:Bool->Shared->Prop}(hq:Q true s):ax M A (isExcClass (.ref c)) Q E s:=by
 induction h with|mk hC=>
 have Ed:=AD c 47;obtain ⟨hp,g,d,tk,os⟩:=s;unfold isExcClass
 repeat (first|with_reducible refine abP hC ?_|(with_reducible refine abX hC ?_;rw [Ed])|wp_step)
 exact hq
inductive wF(h:Heap):List Addr->Value->Prop
 |one {c}:wF h [c] (.ref c)
 |tup {cs a o items n}:h.get? a=some o->o.cls=.type "tuple"->o.data=.seq items n->items.toList=cs.map dT->wF h cs (.ref a)
theorem CA{cs:List Addr}(hs:wF s.heap cs spec)(hcs: ∀c∈cs,yS s.heap c){X:List Value->Sem α}{Q:α->Shared->Prop}(h:wpAny M A (X (cs.map dT)) Q E s):
  wpAny M A (acG spec (.type "tuple")>>=λa=>if a=true then (ac0 spec>>=λo=>pure (o.getD #[]).toList>>=X) else (pure [spec]>>=X)) Q E s:=by
 induction hs with
 |one=>
  cases hcs _ bj with|mk hc=>
  refine wpAny_bind (Kl<|acI (T:="type") ⟨_,hc,rfl⟩ tc_notTuple ?_);rw [if_neg (by decide)];exact (pureO h)
 |tup h1 h2 h3 h4=>
  refine wpAny_bind (Kl<|acI (T:="tuple") ⟨_,h1,h2⟩ isSubtype_tuple_tuple ?_);rw [if_pos rfl];exact wpAny_bind (Kl<|adO h1 h3 ((pureO (by rw [<-h4] at h;exact h))))
theorem yT(hC:yS s.heap C)(he:s.heap.get? e=some oe)(hcls:oe.cls=.ref C){cs:List Addr}(hs:wF s.heap cs spec)(hcs: ∀c∈cs,yS s.heap c)(hb:((cs.map dT).any λv=>(dT C::fP 47).contains v)=b){Q:Bool->Shared->Prop}(hq:Q b s):wpAny M A (aec (.ref e) spec) Q E s:=by
 unfold aec;refine CA hs hcs ?_;refine wpAny_bind (JS (λv hv u Q hq=>?_) ?_)
 ·obtain ⟨a,ha,rfl⟩:=dy.mp hv;refine wpAny_bind (Kl<|(hcs a ha).isType ?_);rw [if_neg (by decide)];exact wpAny_pure hq
 ·refine wpAny_bind (wpAny_bind (Kl<|abP he ?_));rw [hcls];induction hC with|mk hC=>
  refine wpAny_pure (wpAny_bind (Fg (λv=>(dT C::fP 47).contains v) (λc hc r Q hq=>?_) ?_))
  ·obtain ⟨hp,g,d,tk,os⟩:=s;refine wpAny_bind (Kl<|abX hC ?_);cases hb:(dT C::fP 47).contains c with
   |true=>rw [hb] at hq;exact wpAny_pure hq
   |false=>rw [hb] at hq;exact wpAny_pure hq
  ·rw [hb];rcases b with _|_<;>exact wpAny_pure hq
end
theorem OS(hj:aT j 3=true)(hk:aT k 3=true):(dT (cB k)::fP 47).contains (.ref (cB j))=bo j k:=by
 have t: ∀{k},aT k 3=true->k∈cc 3:=λh=>rp.mpr (aZ h);exact ai (ai (f:=λk=>(cc 3).map λj=>(dT (cB k)::fP 47).contains (.ref (cB j))) (g:=λk=>(cc 3).map λj=>bo j k) (show (cc 3).map _=(cc 3).map _ by kernel_rfl) (t hk)) (t hj)
theorem OT(hk:aT k 3=true)(h: ∀j∈ks,aT j 3=true):(((ks.map cB).map dT).any λv=>(dT (cB k)::fP 47).contains v)=n6 k ks:=by
 induction ks with
 |nil=>rfl
 |cons j ks ih=>
  rw [oC,oC,Dx,ih λa ha=>h a (cb _ ha),OS (h j bj) hk];show _=cond (bo j k) true (n6 k ks);cases bo j k<;>rfl
end MP
end Mine.Lake
end
section
namespace Mine.Lake
namespace MP
open PySem PySem.W PyProof.Rows
structure JT(sc:abL)(t:bp)(ks:List Nat):Prop where
 dom: ∀k∈ks,aT k 3=true
 ok: ∀{C:Cx} (_:FE C.env C.sc) (_:C.sc=sc) (z:Z C) (Q:Value->Shared->Prop) (E:Value->Shared->Prop),(∀v h',Keeps z.s.heap h'->wF h' (ks.map cB) v->Q v {z.s with heap:=h'})->ax C.M C.A (eval t C.env) Q E z.s
theorem OU:(gw.all λe=>aT e.2 3)=true:=by kernel_rfl
abbrev nH(sc:abL)(e:bp)(k:Nat):Prop:= ∃x p,e=.Name x p/\fG sc x=true/\bX (sl x) gw=some k
section
variable{sc:abL}
theorem nH.dom(h:nH sc e k):aT k 3=true:=by
 obtain ⟨x,p,_,_,h⟩:=h;exact fi.mp OU _ (lU h)
theorem nH.ok(h:nH sc e k):JT sc e [k]:=⟨λU q=>dC.mp q▸h.dom,λF hs z Q E hq=>by
 obtain ⟨x,p,rfl,h1,h2⟩:=h;exact eX F (hs.symm▸h1) (.inl (Ea _ h2)) (hq _ _ (Keeps.refl _) .one)⟩
theorem Fi(F:FE C.env C.sc)(hs:C.sc=sc)(z:Z C)(h:cM (nH sc) es ks){Q:List Value->Shared->Prop}(hq:Q ((ks.map cB).map dT) z.s):ax C.M C.A (acd (ab1 pos (abU es C.env))) Q E z.s:=by
 induction h generalizing Q with
 |nil=>exact aaw hq
 |cons h _ ih=>
  refine ae λaA=>?_;obtain ⟨x,p,rfl,h1,h2⟩:=h;refine aA ?_;exact Calls.spliced_cons (eX F (hs.symm▸h1) (.inl (Ea _ h2)) (ih hq))
theorem JU(h:cM (nH sc) es ks)(hl:eh ks.length 15=true)(k:_)(p:Pos):JT sc (.Tuple es k p) ks:=⟨λk hk=>by
 induction h with
 |nil=>cases hk
 |cons h _ ih=>exact (de.mp hk).elim (λe=>e▸h.dom) (ih (Tx (Nat.le_of_succ_le (aw hl)))),λF hs z Q E hq=>by
 refine PySem.wpAny_Tuple_spliced (Fi F hs z h ⟨?_,hq _ _ (Keeps.push _ _) (.tup (da _ rfl) rfl rfl (by simp))⟩);rw [df,df];exact bt (aw hl) (by unfold abQ;decide)⟩
end
noncomputable def Cx.mark(C:Cx)(v:Value):Cx:={C with A:=C.A.mark (some v)}
noncomputable def Kx.mark{sc:abL}(k:Kx sc false)(v:Value):Kx sc true:=⟨k.C.mark v,k.n,k.cf,k.hs,k.fe,k.depth,k.units,k.lam,k.hcf,nofun⟩
section
variable{C:Cx}{v:Value}
noncomputable def Z.mark(z:Z C)(v:Value):Z (C.mark v):=⟨z.y,z.ρ,z.H,z.s,z.I.toInvH,z.I.iK,z.I.vars,z.I.rl,z.I.loc,z.I.frames⟩
noncomputable def Z.back'(z:Z (C.mark v)):Z C:=⟨z.y,z.ρ,z.H,z.s,z.I.toInvH,z.I.iK,z.I.vars,z.I.rl,z.I.loc,z.I.frames⟩
theorem oK.back(r:oK z f x):oK z.back' f x:=by
 induction r with
 |next=>exact .next
 |brk=>exact .brk
 |cont=>exact .cont
 |ret r=>exact .ret r
variable{Q:fA->Shared->Prop}{E:Value->Shared->Prop}{z:Z C}{x:Out MP.Flow}
theorem Po.met(w:Po false bz z (MV x g) Q E)(hd:C.A.handled=none)(h1: ∀f s,Q f s->Q' f s)
  (h2: ∀k u (z':Z C) v,Po false bz z' (g k u z'.ρ z'.H) Q E->Bx z'.y z'.s.heap k u v->E' v z'.s):Po false bz z x Q' E':=by
 refine ⟨?_,λa z' y e A r=>h1 _ _ (w.ok a z' y (by rw [e];rfl) A r),λk u z' y e l F=>h2 k u z' y ?_ F⟩
 ·induction x with
  |ok=>trivial
  |exc=>exact hd
  |_=>exact w.fits
 ·rw [e] at w;exact Po.mH (z':=z') w (.of l)
theorem Po.hand(w:Po false bz z (pg x g) Q E){K:fA->Shared->Prop}(h: ∀f (z':Z C) y,Po false bz z' (g f z'.ρ z'.H) Q E->oK z' f y->K y z'.s):Po false bz (z.mark v) x K λU U=>False:=by
 refine ⟨?_,λf z' y e A r=>h f z'.back' y ?_ r.back,λk u z' y e l F=>?_⟩
 ·induction x with
  |ok=>trivial
  |_=>exact w.fits.elim
 ·rw [e] at w;exact Po.mH (z':=z'.back') w (.of A.toLe)
 ·rw [e] at w;exact w.fits.elim
theorem Z.OV(F:cK z.y z.s.heap k u v): ∃y I,Le z.y y/\az y (.exc k u) v/\I=(I:Inv C y z.ρ z.H z.s):=by
 induction F with|@mk e o vs t h1 h2 h3 h4 h5 h6 h7=>
 induction h6 with|mk a b c d r=>
 have up:Le z.y (z.y.set e (some (.kept o))):=Le.set h7;obtain ⟨I,A⟩:=z.more (s':=z.s) up (λa x q=>⟨(z.y.cA _ (Wd.ne h7 q)).trans q,λU e=>e⟩) (λa x q=>by
  by_cases p:a=e
  ·subst p;rw [z.y.cC] at q;rcases q with _|_;exact .inr h1
  ·exact .inl ((z.y.cA _ p).symm.trans q)) rfl
 exact ⟨_,I,up,⟨_,.mk (congrArg bR (z.y.cC _ _)) a b h2 (c.mono λU U q=>up.j _ _ q) d,r.mono up.toUp⟩,rfl⟩
end
end MP
end Mine.Lake
end
section
namespace Mine.Lake
namespace MP
open PySem PySem.W PyProof.Rows
section
variable{prog:Program}{w:abR}{A:Around}{s:Shared}{env:dq}{R:ab6->Shared->Prop}{e:Value}{body:List ec}{pos:Pos}
theorem CB(h:wpAny (abJ prog w) A (adD e none) (λU s₁=>wpAny (abJ prog w) A (acr body env) (λf s₂=>R (.ok f) s₂) (λU U=>False) s₁) (λU U=>False) s):codeAny (abJ prog w) A (.handlers e [.ExceptHandler none none body pos] env) R s:=by
 refine codeAny_of_tree ?_;show wpAny _ A (do return aaQ (<-(ac5 e env [.ExceptHandler none none body pos]).onRaise (λx=>do ace x env;acs x))) _ _ s;refine wpAny_bind (wpAny_noted ?_);rcases body with _|_<;>
 ·unfold ac5;exact (cX (wpAny_bind (wpAny_mono h (λU s₁ h₁=>wpAny_mono h₁ (λf s₂ h₂=>wpAny_pure h₂) λU U x=>x.elim) λU U x=>x.elim)))
theorem Fj(h:wpAny (abJ prog w) A (adD e none) (λU s₁=>wpAny (abJ prog w) A (acm env nm e) (λU s₂=>wpAny (abJ prog w) A (acr body env) (λf s₃=>R (.ok f) s₃) (λU U=>False) s₂) (λU U=>False) s₁) (λU U=>False) s):codeAny (abJ prog w) A (.handlers e [.ExceptHandler none (some nm) body pos] env) R s:=by
 refine codeAny_of_tree ?_;show wpAny _ A (do return aaQ (<-(ac5 e env [.ExceptHandler none (some nm) body pos]).onRaise (λx=>do ace x env;acs x))) _ _ s;refine wpAny_bind (wpAny_noted ?_);rcases body with _|_<;>
 ·unfold ac5;refine (cX (wpAny_bind (wpAny_mono h (λU s₁ h₁=>?_) λU U x=>x.elim)));refine wpAny_bind (wpAny_bindName (wpAny_mono h₁ (λU s₂ h₂=>?_) λU U x=>x.elim));exact wpAny_bind (wpAny_attempt (wpAny_mono h₂ (λf s₃ h₃=>wpAny_pure (wpAny_pure h₃)) λx s₃ h₃=>h₃.elim))
end
theorem cK.keeps(x:cK y h k w v)(K:Keeps h h'):cK y h' k w v:=by
 induction x with|mk a b c d e f g=>induction e with|mk e1 e2 e3 e4 e5=>exact .mk (K _ _ a) b c d (.mk (K _ _ e1) e2 e3 e4 e5) f g
theorem cK.obj(x:cK y h k w v): ∃e o,v=.ref e/\h.get? e=some o/\o.cls=.ref (cB k):=by
 induction x with|mk a b c d e f g=>induction f with|mk f1=>exact ⟨_,_,rfl,a,f1⟩
set_option tactic.hygienic true in
theorem oK.moved{z z':Z C}(r:oK z f x)(g:xM f=true)(e:z'.y=z.y)(k: ∀b,z.y.W b=none->Hk z.s.heap z'.s.heap b):oK z' f x:=by
 induction r with
 |next=>exact .next
 |brk=>exact .brk
 |cont=>exact .cont
 |ret r=>
  rename_i u v
  refine .ret ?_;induction u with
  |val u=>exact (e▸r:az z'.y u v)
  |own o=>exact Exists.imp (λp q=>⟨q.1,q.2.keep (e▸Up.refl _) λa h=>⟨e▸q.2.n a h,k a (q.2.n a h)⟩⟩) r
  |slot i=>exact bI g
section
variable{sc:abL}{body hand:List ec}{mb mh:List fF}{t:bp}{ks:List Nat}(hb:gU false sc false body mb)(hh:gU false sc true hand mh)(ht:JT sc t ks)(hp pos:Pos)
include hb ht
theorem wG{k:Kx sc false}{z:Z k.C}{X:Nat->V->MP.Env->Hp->Out MP.Flow}{Q:fA->Shared->Prop}(w:Po false bz z (MV (br mb k.cf z.ρ z.H) λc u ρ H=>bZ (aT c 3) (cond (n6 c ks) (X c u ρ H) (.exc c u ρ H))) Q E){name:Option Str}
  (hk: ∀c u (z':Z k.C) v,cK z'.y z'.s.heap c u v->Po false bz z' (X c u z'.ρ z'.H) Q E->codeAny k.M (k.A.mark (some v)) (.handlers v [.ExceptHandler none name hand hp] k.C.env) (λr s₂=>match r with
   | .ok f=>(match name with
    |none=>Q f s₂
    |some n=>wpAny k.M k.A (do acW k.C.env n .none;acF k.C.env n hp) (λU s₃=>Q f s₃) E s₂)
   | .error x=>cameBackBy k.M k.A k.C.env E x s₂) z'.s):wpAny k.M k.A (exec (.Try body [.ExceptHandler (some t) name hand hp] [] [] pos) k.C.env) Q E z.s:=by
 refine wpAny_Try_except (jq hb k z _ _ (w.met (k.hh rfl) (λf s h=>?_) λc u z' v w F=>?_))
 ·induction f with
  |next=>exact Kl<|acK h
  |_=>exact h
 ·refine Kl<|oM F λz2 A2 U e2 e3 F2=>Kl<|fT F2 λz3 A3 U d2 d3 F3=>w.guard λhc w=>?_;have w:=w.mH (z':=z3) (.of (A2.toLe.trans A3.toLe));rw [<-d2.trans e2, <-d3.trans e3] at w;refine ae λaA=>?_;obtain ⟨a,o,rfl,_,_⟩:=F3.obj;refine aA ?_;refine wpAny_handleBy_cons (codeAny_handlers_test (Kl<|ht.ok (C:=k.C.mark (.ref a)) k.fe k.hs (z3.mark _) _ _ λspec h' K S=>?_)) (by intro q;rcases q with _|_);refine ae λb8=>?_;obtain ⟨I4,A4⟩:=z3.iR K z3.s.toks;have F4:=F3.keeps K;obtain ⟨_,o,e,he,hcls⟩:=F4.obj;refine b8 ?_;rcases e with _|_;have ex: ∀j,yS h' (cB j):=λj=>.mk (Z.base ⟨_,_,_,_,I4⟩ (iu k.C.P j));refine yT (s:={z3.s with heap:=h'}) (ex c) he hcls S (λd hd=>by obtain ⟨j,_,rfl⟩:=dy.mp hd;exact ex j) (OT hc ht.dom) ?_;have w:=w.mH (z':=⟨_,z3.ρ,z3.H,_,I4⟩) A4.lax;exact w.cond (λq w=>by rw [q];exact hk c u ⟨_,z3.ρ,z3.H,_,I4⟩ _ F4 w) λq w=>by
   rw [q];exact wpAny_handleBy_nil (AA (z:=⟨_,z3.ρ,z3.H,_,I4⟩) F4 λz5 A5 e5 e6 F5=>w.exc c u z5 _ (by rw [e5,e6]) A5.toLe F5.Sb)
include hh
theorem OW:jV false sc false (.Try body [.ExceptHandler (some t) none hand hp] [] [] pos) (sZ mb ks .none mh):=λk z Q E w=>
 wG hb ht hp pos (X:=λc u ρ H=>pg (br mh k.cf ρ H) λf ρ H=>.ok f ρ H) w λc u z' v F w=>CB (Kl<|fT (z:=z'.mark v) F λz2 A U e2 e3 F2=>
  jq hh (k.mark v) z2 _ _ (Po.hand (z:=z2.back') (Po.mH (z':=z2.back') (Q:=Q) (E:=E) (by
   show Po false bz z' (pg (br mh k.cf z2.ρ z2.H) _) Q E;rw [e2,e3];exact w) (.of A.toLe)) λf z3 y w r=>r.done w))
theorem CC(hx:iQ sc x=some i)(hl:gu (sl x) sc.names=true):jV false sc false (.Try body [.ExceptHandler (some t) (some x) hand hp] [] [] pos) (sZ mb ks (some i) mh):=λk z Q E w=>by
 refine ae λaA=>?_;obtain ⟨kd,hn,_⟩:=cV hx;refine aA ?_;cases wD (by rw [<-k.hs];exact k.fe.once) hl hn;have hn':aU k.C.sc.names i=some (x,.local):=by rw [k.hs];exact hn
 refine wG hb ht hp pos (X:=λc u ρ H=>pg (br mh k.cf (put ρ i (.val (.exc c u))) H) λf ρ H=>bZ (xM f) (.ok f (put ρ i .empty) H)) w λc u z' v F w=>Fj (Kl<|fT (z:=z'.mark v) F λz2 A U e2 e3 F2=>?_);refine ae λb8=>?_;obtain ⟨y,I,l,hv,_⟩:=z2.OV F2;refine b8 ?_;refine Kl<|eF (z:=⟨y,z2.ρ,z2.H,z2.s,I⟩) k.fe hn' rfl (r7 (z:=⟨y,z2.ρ,z2.H,z2.s,I⟩) k.fe hn') (sl:=.val (.exc c u)) ⟨Le.refl _,λU U h=>h,λU U h=>.inl h,λU U=>rfl,hv⟩ λh4 t4 I4 U U U=>?_;refine jq hh (k.mark v) ⟨_,_,_,_,I4⟩ _ _ (Po.hand (z:=Z.back' ⟨_,_,_,_,I4⟩) (Po.mH (z':=Z.back' ⟨_,_,_,_,I4⟩) (z:=z') (by
  show Po false bz z' (pg (br mh k.cf (put z2.ρ i _) z2.H) _) Q E;rw [e2,e3];exact w) (.of (A.toLe.trans l))) λf z5 y5 w5 r5=>?_)
 exact Kl<|Cz (z:=z5) k.fe hn' λh6 t6 I6 k6=>w5.guard λg w5=>w5.ok' rfl ⟨_,_,_,_,I6⟩ (.of (Le.refl _)) (r5.moved g rfl k6)
end
end MP
end Mine.Lake
end
section
namespace Mine.Lake
namespace MP
open PySem PySem.W PyProof.Rows
theorem ur(h:MZ sc x=some i):aU sc.names i=some (x,.cell):=by
 have gen: ∀{names:List (Str×NameKind)} {i j:Nat},s9 (sl x) i names=some j-> ∃d,j=i+d/\aU names d=some (x,.cell):=by
  intro names;induction names with
  |nil=>intro i j h;exact bw h
  |cons a r ih=>
   intro i j h;change cond (bP (sl a.1) (sl x)) (gg (oE a.2) (some i)) (s9 (sl x) (i+1) r)=some j at h;cases q:bP (sl a.1) (sl x) with
   |true=>
    rw [q] at h;obtain ⟨q',h⟩:=rI (a:=oE a.2) h;rcases h with _|_;obtain ⟨n,k⟩:=a;rcases k with _|_<;>first|exact ⟨0,rfl,by rw [<-ig (dP q)];rfl⟩|exact bI q'
   |false=>
    rw [q] at h;obtain ⟨d,a,b⟩:=ih h;exact ⟨d+1,by rw [a,hY];rfl,b⟩
 obtain ⟨d,a,b⟩:=gen h;rw [fb] at a;subst a;exact b
theorem r8{G:Prop}(h:eE sc ((n,k)::r)=some caps)(k1:k≠ .free->bg ((n,k)::r)=bg r->eE sc r=some caps->G)(k2:k=.free-> ∀j l,MZ sc n=some j->eE sc r=some l->caps=j::l->G):G:=by
 induction k with
 |free=>exact aQ h λj q1 h=>aQ h λl q2 h=>k2 rfl j l q1 q2 (ag h).symm
 |_=>exact k1 nofun rfl h
section
variable{sc:abL}{ns:List (Str×NameKind)}{caps:List Nat}
theorem yU(h:eE sc ns=some caps):(∀i∈caps, ∃n,aU sc.names i=some (n,.cell))/\ ∀d n,aU ns d=some (n,eQ)-> ∃j,aU sc.names j=some (n,.cell):=by
 induction ns generalizing caps with
 |nil=>rcases h with _|_;exact ⟨λi hi=>absurd hi eP,λd n h=>bw h⟩
 |cons a r ih=>
  obtain ⟨n,k⟩:=a;refine r8 h (λhk U h=>⟨(ih h).1,λd m hd=>?_⟩) λe j l q1 q2 e'=>?_
  ·induction d with
   |zero=>rcases hd with _|_;exact (hk rfl).elim
   |succ d=>exact (ih h).2 d m hd
  ·subst e e';refine ⟨du.mpr ⟨⟨n,ur q1⟩,(ih q2).1⟩,λd m hd=>?_⟩;induction d with
   |zero=>rcases hd with _|_;exact ⟨j,ur q1⟩
   |succ d=>exact (ih q2).2 d m hd
theorem yV(h: ∀d n,aU ns d=some (n,eQ)->(env.cells.lookup n).isSome=true):(cS env ns acc).map (λU=>U.1)=(bg ns).reverse++acc.map (λU=>U.1):=by
 induction ns generalizing acc with
 |nil=>rfl
 |cons a r ih=>
  obtain ⟨n,k⟩:=a;have ih:=λacc=>ih (acc:=acc) λd m hm=>h (d+1) m hm;rcases uh env n k r acc with ⟨c,rfl,hc,e⟩|⟨hk,e⟩
  ·rw [e,ih];show _=(n::bg r).reverse++_;rw [kb,eD];rfl
  ·rw [e,ih];induction k with
   |free=>have:=h 0 n rfl;rw [hk rfl] at this;exact bI this
   |_=>rfl
theorem Fl{z:Z C}(F:FE C.env C.sc)(hs:C.sc=sc){vs:List V}(h:eE sc ns=some caps)(hl:vs.length=caps.length)(hx: ∀k i v,aU caps k=some i->aU vs k=some v->bh z.ρ i=.fix v)(hc: ∀d n,aU ns d=some (n,eQ)->cl.lookup n=C.env.cells.lookup n):fM z.y cl vs (bg ns):=by
 induction ns generalizing caps vs with
 |nil=>
  cases h;induction vs with
  |nil=>exact rfl
  |cons=>cases hl
 |cons a r ih=>
  obtain ⟨n,k⟩:=a;have hc': ∀d m,aU r d=some (m,eQ)->cl.lookup m=C.env.cells.lookup m:=λd m hm=>hc (d+1) m hm;refine r8 h (λU e h=>by rw [e];exact ih h hl hx hc') λe j l q1 q2 e'=>?_;subst e e';induction vs with
  |nil=>cases hl
  |cons v vs=>
   refine ae λaA=>?_;obtain ⟨c,o,x,b1,b2,b3,b4⟩:=wj z F (hs▸ur q1) rfl (hx 0 j v rfl rfl);refine aA ?_;exact ⟨n,bg r,rfl,⟨c,o,x,(hc 0 n rfl).trans b1,congrArg bR b2,b3,b4⟩,ih q2 (abD hl) (λk i v h1 h2=>hx (k+1) i v h1 h2) hc'⟩
end
theorem q6(l:List Value)(h:ad4 l):ac1 pos (l++[aco a,aco b,c])=some cv->ac1 pos l=some cv\/cv=c:=by
 fun_induction ad4 l with
 |case1=>
  intro h;simp only [xc,aco,ac1] at h;split at h
  ·exact .inr (ag h).symm
  ·exact bw (h)
 |case2 a' t b' u x rest ih=>
  intro h2;simp only [aaT,ac1] at h2 ⊢;split at h2
  ·rename_i hc;rw [if_pos hc];exact .inl h2
  ·rename_i hc;rw [if_neg hc];exact ih h h2
 |case3 l h1 h2=>exact h.elim
noncomputable def OX:List Nat->Bool
 |[]=>true
 |a::r=>cond (r.any (bo a)) false (OX r)
theorem OY{α:Type}{f:α->Nat}{l:List α}(h:OX (l.map f)=true){a b:α}(ha:a∈l)(hb:b∈l)(e:f a=f b):a=b:=by
 induction l with
 |nil=>cases ha
 |cons c l ih=>
  obtain ⟨h1,h2⟩:=oh h;have no: ∀x∈l,f c≠f x:=λx hx q=>q0.mp h1 _ (dy.mpr ⟨x,hx,rfl⟩) (by rw [q];exact lL _);rcases de.mp ha with rfl|ha
  ·exact (de.mp hb).elim (λU=>U.symm) λhb=>(no _ hb e).elim
  ·exact (de.mp hb).elim (λq=>(no _ ha (q▸e.symm)).elim) λhb=>ih h2 ha hb
theorem Fo:OX (fX.map (λU=>U.2.1))=true:=by kernel_rfl
section
variable{C:Cx}(z:Z C)
theorem Z.SG(hq:q∈fX)(k:eC q.2.1 z.s.heap h')(hP:h'.get? q.2.1=some (tabObj ps))(ht:ad4 ps.toList)
  (hn:z.s.heap.get? c'=none) (ho:h'.get? c'=some oc) (hc: ∀y',Up z.y y'->y'.J c'=some oc-> ∀pos c,ac1 pos ps.toList=some c->jg y'.J q.2.2 c) (t:Nat): ∃I,bY true z ⟨z.y.set c' (some (.kept oc)),z.ρ,z.H,{z.s with heap:=h',toks:=t},I⟩:=by
 have T:=z.I.tabs q hq;cases id T with|@mk o0 ps0 tW tJ tC tT tc=>
 have nc:=z.no hn;have up:Le z.y (z.y.set c' (some (.kept oc))):=Le.set nc;have r9: ∀{a x},z.y.W a=some x->(z.y.set c' (some (.kept oc))).W a=some x:=λe=>(z.y.cA _ (Wd.ne nc e)).trans e;have ne: ∀{a x},z.y.W a=some x->x≠ .tab->a≠q.2.1:=λe n p=>by subst p;cases ag (tW.symm.trans e);exact n rfl
 have hk: ∀{a x},z.y.W a=some x->x≠ .tab->Hk z.s.heap h' a:=λe n o=>k _ o (ne e n);have kv: ∀{i f x},aY C.env z.y z.s.heap i f x->aY C.env (z.y.set c' (some (.kept oc))) h' i f x:=λv=>v.keep (hk z.I.iK nofun) λc w e d=>⟨r9 e,hk e (by rcases d with rfl|d;exact nofun;rintro rfl;exact bI d)⟩;have I:InvH C.toSt (z.y.set c' (some (.kept oc))) z.ρ z.H {z.s with heap:=h',toks:=t}:=z.I.toInvH.upd' (X:=(λU=>U=q.2.1)) up.toUp (λa x e n=>⟨r9 e,λo=>k a o n⟩) (λa x e=>by
   by_cases p:a=c'
   ·subst p;rw [z.y.cC] at e;rcases e with _|_;exact .inr ho
   ·have e:=(z.y.cA _ p).symm.trans e;by_cases p2:a=q.2.1
    ·subst p2;cases ag (tW.symm.trans e);exact .inr ⟨_,hP⟩
    ·exact .inl ⟨e,p2⟩) z.I.len (λx o e=>.inl ⟨e,rfl,λp hp a pl=>by obtain ⟨d,h⟩:=z.at e hp pl;exact ne h nofun⟩) rfl rfl λq' hq'=>by
   by_cases p:q'.2.1=q.2.1
   ·cases OY Fo hq' hq p;have hd:CodeHd h' q.1 q.2.1:=by
     obtain ⟨o,vs,file,tf,flags,tg,WX,text,tt,e1,r⟩:=CodeHd.of tC tT;exact ⟨o,vs,file,tf,flags,tg,WX,text,tt,hk (aJ tJ) nofun _ e1,r⟩
    exact .mk (r9 tW) (up.j _ _ tJ) (hd.code hP ht) (hd.tab hP) (hc _ up.toUp (congrArg bR (z.y.cC _ _)))
   ·have T':=z.I.tabs q' hq';cases id T' with|mk a b=>exact T'.keep up.toUp (hk (aJ b) nofun) (λo=>k _ o p) (r9 a)
 exact ⟨{toInvH:=I,iK:=r9 z.I.iK,vars:=λi=>(z.I.vars i).keep up.toUp (λf x v=>kv v) rfl,rl:=z.I.rl,loc:=z.I.loc.imp λo l=>⟨hk z.I.iK nofun _ l.1,l.2⟩,frames:=z.I.frames.imp λU x=>x.imp λU x=>⟨x.1,x.2.1,λe he=>⟨(x.2.2 e he).1,(x.2.2 e he).2.imp λL q=>⟨q.1,q.2.imp id λq=>by induction q with|mk a b c=>exact .mk (r9 a) b c⟩⟩⟩},up,λU i x v=>v.imp λU v=>kv v⟩
end
def VA(P:abK):Addr:=mW ((ko P abN "__builtins__").getD .none)
theorem SH(P:abK):ko P abN "__builtins__"=some (.ref (VA P)):=by kernel_rfl
theorem Fp(P:abK):bq P (VA P)=some {cls:=.type "module",dict:=some abW,data:=.plain}:=by kernel_rfl
theorem SI(P:abK):cond (bo (VA P) abW) true (bo (VA P) abN)=false:=by kernel_rfl
theorem or2(h:cond a true b=false):a=false/\b=false:=by rcases a with _|_;exact ⟨rfl,h⟩;exact mn h
theorem SJ{a b:Nat}(h:bo a b=false):a≠b:=λe=>by subst e;rw [lL] at h;exact mn h
section
variable{C:Cx}{z:Z C}
theorem SK(hP:z.y.W P=some .tab):z.s.heap.BuiltinsAt (ko C.P abN) P/\abN≠P:=by
 have n: ∀{a o},bq C.P a=some o->a≠P:=λe q=>by subst q;cases ag (hP.symm.trans (aJ (z.I.base _ _ e)))
 obtain ⟨h1,h2⟩:=or2 (SI C.P);exact ⟨⟨_,_,SH C.P,SJ h1,SJ h2,n (Fp C.P),z.base (Fp C.P),rfl,rfl,rfl⟩,by cases tK C.P with|mk a=>exact n a⟩
theorem JV{vs:List V}(hl:cz k=some (⟨[],as,none,[],[],none,[]⟩,body,inner))(e:y.J a=some o)(h1:o.cls=.type "function")(h2:o.data=.func fd)(p4:fd.params=⟨[],as,none,[],[],none,[]⟩)(p5:fd.body=.expr body)(p6:fd.scope=inner)(p7:fd.globals=abN)(p8:fd.builtins=abW)(p9:fd.defaults=.none)(Vy:fd.kwdefaults=.none)
  (p11:jg y.J fd.qualname fd.code) (p12:fd.closure.map (λU=>U.1)=(bg inner.names).reverse) (p13:fM y fd.closure vs (bg inner.names)):az y (.ou k vs) (.ref a):=⟨_,_,.mk e h1 h2 hl p4 p5 p6 p7 p8 p9 Vy p11 p12,p13⟩
variable{sc:abL}{as:List Arg}{body:bp}{inner:abL}{k:Nat}{caps:List Nat}{vs:List V}(hl:cz k=some (⟨[],as,none,[],[],none,[]⟩,body,inner))(F:FE C.env C.sc)(dB: ∀d x,aU inner.names d=some (x,eQ)->(C.env.cells.lookup x).isSome=true)(hclo:fM z.y (cS C.env inner.names []) vs (bg inner.names))
include hl F dB hclo
theorem wH{z':Z C}(u:Up z.y z'.y)(w:Po b bK z' (.ok (.val (.ou k vs)) z'.ρ z'.H) Q E)(hc:jg z'.y.J q cv):
  Q (.ref z'.s.heap.objs.size) {z'.s with heap:=z'.s.heap.push {cls:=.type "function",data:=.func (kla_fn nm q ⟨[],as,none,[],[],none,[]⟩ body inner (cS C.env inner.names []) pm cv ctv)}}:=by
 obtain ⟨y',I',A,e⟩:=z'.H6 {cls:=.type "function",data:=.func (kla_fn nm q ⟨[],as,none,[],[],none,[]⟩ body inner (cS C.env inner.names []) pm cv ctv)} rfl z'.s.toks;refine w.ok' rfl ⟨_,_,_,_,I'⟩ A.lax (JV (vs:=vs) hl e rfl rfl rfl rfl rfl rfl rfl rfl rfl (hc.mono A.j) ?_ (fM.mono (u.trans A.toUp) _ hclo));rw [yV dB,Hc,gn]
theorem OZ(w:Po b bK z (.ok (.val (.ou k vs)) z.ρ z.H) Q E)(hh:rE C.env C.sc)(hi: ∃i n,aU C.sc.names i=some (n,oy))(pos:Pos):wpAny C.M C.A (eval (.Lambda ⟨[],as,none,[],[],none,[]⟩ body inner pos) C.env) Q E z.s:=by
 refine ae λaA=>?_;obtain ⟨c,P,hcode,hq⟩:=hh hi;have T:=z.I.tabs _ hq;induction T with|@mk oc ps tW tJ tC tT tc=>
 have HD:=CodeHd.of tC tT;have hP:=tT.2;have htr:ad4 ps.toList:=by obtain ⟨_,_,_,_,_,_,_,_,_,op,_,_,_,_,_,_,_,z1,z2,z3,_⟩:=tC;rw [hP] at z1;rcases z1 with _|_;rcases z2 with _|_;exact z3
 obtain ⟨ZA,hgP⟩:=SK (z:=z) tW;refine aA ?_;have hg:z.s.heap.Ns abN (ko C.P abN):=(tK C.P).ns λU U=>z.base;have hdef:defaultsOf ⟨[],as,none,[],[],none,[]⟩ C.env=([],[]):=by rfl
 refine kla_eval hdef (Kl ?_);cases qc:ac1 pos ps.toList with
 |some cv=>
  refine kla_makeFunctionHit (kX dB) F.gl hg hcode HD hP htr qc ZA λctv h' tk hk U=>?_;obtain ⟨I,A⟩:=z.iR hk tk;exact wH hl F dB hclo (z':=⟨_,_,_,_,I⟩) (Up.refl _) (w.mH A.lax) (tc pos cv qc)
 |none=>
  refine kla_makeFunction (kX dB) F.gl hg hcode HD hP htr qc hgP ZA λc' ctv h' tk hx hge hlt hrec htb=>?_;refine ae λb8=>?_;obtain ⟨c2,oc2,cvs,ct,z1,z2,z3,z4⟩:=hrec;refine b8 ?_;rcases z1 with _|_;obtain ⟨I,A⟩:=z.SG hq hx htb (by rw [wd];exact TriplesOk_snoc _ _ _ _ htr) (lb hge) z2 (λy' u e pos' cv h=>by
   rw [wd] at h;rcases q6 _ htr h with h|rfl
   ·exact (tc pos' cv h).mono u.j
   ·exact .mk e z3 z4) tk
  exact wH hl F dB hclo (z':=⟨_,_,_,_,I⟩) A.toUp (w.mH A.lax) (.mk (congrArg bR (z.y.cC _ _)) z3 z4)
end
theorem O0(hl:cz k=some (⟨[],as,none,[],[],none,[]⟩,body,inner))(hc:eE sc inner.names=some (l0::l1))(pos:Pos):aV sc false (.Lambda ⟨[],as,none,[],[],none,[]⟩ body inner pos) (xF k (l0::l1)):=λK z Q E w=>by
 refine ae λaA=>?_;obtain ⟨k1,k2⟩:=yU hc;have OM: ∀j∈l0::l1,wc K.C.sc j:=λj hj=>(k1 j hj).imp λx h=>⟨_,K.hs▸h,rfl⟩;obtain ⟨vs,z1,X,e1,lv,gv⟩:=rW K.fe (z:=z) (cf:=K.cf) OM w.fits.left;refine aA ?_;have w:=w.step e1 X.mH;have dB: ∀d x,aU inner.names d=some (x,eQ)->(K.C.env.cells.lookup x).isSome=true:=λd x h=>(k2 d x h).elim λj h=>wh z1 K.fe (K.hs▸h) rfl;rw [<-X.s];exact OZ hl K.fe dB (Fl K.fe K.hs hc lv gv λd x h=>ql (.inr ⟨d,h⟩) (dB d x h)) w K.lam ((k1 l0 bj).imp' _ λx h=>⟨x,K.hs▸h⟩) pos
end MP
end Mine.Lake
end
section
namespace Mine.Lake
namespace MP
open PySem PySem.W PyProof.Rows
section
variable{sc:abL}
theorem yW{G:Prop}(h:bC sc (a++b)=some ps)(k: ∀p1 p2,bC sc a=some p1->bC sc b=some p2->ps=p1++p2->G):G:=by
 induction a generalizing ps with
 |nil=>exact k [] ps rfl h rfl
 |cons n a ih=>exact gf h λi l q1 q2 e=>ih q2 λp1 p2 e1 e2 e3=>k (i::p1) p2 (by show bb (iQ sc n) _=_;rw [q1];show bb (bC sc a) _=_;rw [e1];rfl) e2 (by rw [e,e3];rfl)
theorem se(h:bC sc ns=some ps)(k:Nat):(∀i,aU ps k=some i-> ∃n,aU ns k=some n/\iQ sc n=some i)/\ ∀n,aU ns k=some n-> ∃i,aU ps k=some i/\iQ sc n=some i:=by
 induction ns generalizing ps k with
 |nil=>cases ag (h);exact ⟨λi h=>bw h,λn h=>bw h⟩
 |cons n a ih=>
  refine gf h λi l q1 q2 e=>?_;subst e;induction k with
  |zero=>exact ⟨λj hj=>by cases ag (hj);exact ⟨n,rfl,q1⟩,λm hm=>by rcases hm with _|_;exact ⟨i,rfl,q1⟩⟩
  |succ k=>exact ih q2 k
theorem uu(hd:ns.Nodup)(h:bC sc ns=some ps):ps.Nodup:=by
 induction ns generalizing ps with
 |nil=>cases ag (h);exact mB
 |cons n a ih=>
  refine gf h λi l q1 q2 e=>?_;subst e;have hd:=iq.mp hd;refine iq.mpr ⟨λhj=>?_,ih hd.2 q2⟩;obtain ⟨m,hm,hl⟩:=pX q2 hj;obtain ⟨k,a1,_⟩:=cV q1;obtain ⟨k',b1,_⟩:=cV hl;cases ag (a1.symm.trans b1);exact hd.1 hm
end
theorem nI:(∀{k n},aU (bg ns) k=some n-> ∃d,aU ns d=some (n,eQ))/\ ∀{d n},aU ns d=some (n,eQ)->n∈bg ns:=by
 induction ns with
 |nil=>exact ⟨λh=>bw h,λh=>bw h⟩
 |cons a r ih=>
  obtain ⟨m,kd⟩:=a;by_cases q:kd=.free
  ·subst q;refine ⟨λ{k n} h=>?_,λ{d n} h=>?_⟩
   ·induction k with
    |zero=>cases ag (h);exact ⟨0,rfl⟩
    |succ k=>exact (ih.1 h).imp' (λU=>U+1) λd h=>h
   ·induction d with
    |zero=>rcases h with _|_;exact bj
    |succ d=>exact cb _ (ih.2 h)
  ·have e:bg ((m,kd)::r)=bg r:=by rcases kd with _|_<;>first|rfl|exact (q rfl).elim
   rw [e];refine ⟨λ{k n} h=>(ih.1 h).imp' (λU=>U+1) λd h=>h,λ{d n} h=>?_⟩;induction d with
   |zero=>rcases h with _|_;exact (q rfl).elim
   |succ d=>exact ih.2 h
section
variable{y:Wd}{cl:List (Str×Addr)}{vs:List V}{ns:List Str}
theorem fM.len(h:fM y cl vs ns):vs.length=ns.length:=by
 induction vs generalizing ns with
 |nil=>cases h;rfl
 |cons v vs ih=>obtain ⟨n,r,rfl,_,h⟩:=h;exact congrArg (λU=>U+1) (ih h)
theorem fM.at(h:fM y cl vs ns)(h1:aU ns k=some n)(h2:aU vs k=some v): ∃c o x,cl.lookup n=some c/\y.J c=some o/\o.data=.cell (some x)/\az y v x:=by
 induction vs generalizing ns k with
 |nil=>exact bw h2
 |cons u vs ih=>
  refine ae λaA=>?_;obtain ⟨m,r,rfl,a,h⟩:=h;refine aA ?_;induction k with
  |zero=>cases ag (h1);rcases h2 with _|_;exact a
  |succ k=>exact ih h h1 h2
end
theorem Fq{f:Str×NameKind->β->Sem (ForInStep β)}(hf: ∀n k cs,k≠ .cell->f (n,k) cs=pure (.yield cs)){names:List (Str×NameKind)}{cs:β}(h: ∀x∈names,x.2≠ .cell):(forIn names cs f:Sem _)=pure cs:=by
 induction names with
 |nil=>rw [pj]
 |cons a r ih=>
  rw [ij,hf a.1 a.2 cs (h _ bj)];exact ih λx hx=>h x (cb _ hx)
structure XC(k:Nat)(as:List Arg)(body:bp)(sc:abL)(ps:List Nat):Prop where
 lam:cz k=some (⟨[],as,none,[],[],none,[]⟩,body,sc)
 ok:vq sc=true
 nc:eZ sc.names=true
 dis:distinct ((bg sc.names++as.map (λU=>U.arg)).map sl)=true
 ps:bC sc (bg sc.names++as.map (λU=>U.arg))=some ps
theorem JW:br [ah m] cf ρ H=(m cf ρ H).bind λr ρ H=>.ok (.ret r) ρ H:=by
 show ((m cf ρ H).bind _).bind _=_;exact bind_assoc
section
variable{k:Nat}{as:List Arg}{body:bp}{sc:abL}{p1 p2:List Nat}(nc:eZ sc.names=true)(on:dK sc.names=true)(hp1:bC sc (bg sc.names)=some p1)(nd:p1.Nodup)
include nc on hp1 nd
theorem CD(he:env.scope=sc)(hc:fM y env.cells caps (bg sc.names))(i:Nat):yu y h' env (λU=>none) i (bh (lG (eU sc.names.length) (p1.zip caps)) i):=by
 have lp:p1.length=caps.length:=by rw [places_len hp1,hc.len]
 have zf:(p1.zip caps).map (λU=>U.1)=p1:=pd (ke lp);by_cases hi:i∈p1
 ·obtain ⟨q,hq⟩:=oR hi;refine ae λaA=>?_;obtain ⟨nm,n1,n2⟩:=(se hp1 q).1 i hq;obtain ⟨v,hv⟩:=lM (l:=caps) (i:=q) (by rw [<-lp];exact dz hq);obtain ⟨c,oc,y,c1,c2,c3,c4⟩:=hc.at n1 hv;obtain ⟨d,hd⟩:=nI.1 n1;obtain ⟨kd,z1,_⟩:=cV n2;refine aA ?_;cases jl on z1 hd;cases ag (z1.symm.trans hd);rw [wu (by rw [zf];exact nd) (Ay hq hv) (by rw [gc];exact dz z1)];exact ⟨nm,.free,c,oc,y,he▸z1,rfl,c1,c2,c3,c4⟩
 ·rw [mj (by rw [zf];exact hi),cZ];intro nm kd hn hown;rw [he] at hn;induction kd with
  |«local»=>exact .inl rfl
  |cell=>exact (dU nc _ (dQ hn) rfl).elim
  |free=>
   refine ae λb8=>?_;obtain ⟨q,hq⟩:=oR (nI.2 hn);obtain ⟨j,j1,j2⟩:=(se hp1 q).2 _ hq;obtain ⟨kd,z1,_⟩:=cV j2;refine b8 ?_;cases jl on z1 hn;exact (hi (dQ j1)).elim
  |_=>exact bI hown
end
section
variable{S:St}{A:Around}{n:Nat}{cf:CF}{z:Zh S}(K:oi S A n cf z.y){k:Nat}{as:List Arg}{body:bp}{sc:abL}{ps:List Nat}(L:XC k as body sc ps){m:M R}(hb:aV sc false body m){caps ws:List V}{x:Value}{xs:List Value}(hv:az z.y (.ou k caps) x)(hw:aB z.y ws xs){R:ab6->Shared->Prop}
include K L hb hv hw
theorem Ft(w:lg z (iJ ⟨.plain,(bg sc.names).length,ps,[],sc.names.length,[ah m]⟩ cf (caps++ws) z.H) R):codeAny S.M A (.call x ⟨xs,[]⟩) R z.s:=lg.opt w λws' q w=>yW L.ps λp1 p2 hp1 hp2 e=>by
 refine ae λaA=>?_;obtain ⟨cl,ns,hk,hc⟩:=hv;induction hk with|@mk a o fd args body' sc' h1 h2 h3 h4 h5 h6 h7 h8 h9 h10 h11 h12 h13=>
 refine aA ?_;cases ag (L.lam.symm.trans h4);refine ae λb8=>?_;subst e;obtain ⟨l1,l2,_,l4⟩:=tZ q;refine b8 ?_;rw [abv,gn] at l4;subst l4;have VB:p1.length=caps.length:=by rw [places_len hp1,hc.len]
 have lp2:p2.length=as.length:=by rw [places_len hp2,df]
 rw [dk,dk,VB] at l1 l2;have la:xs.length=as.length:=by rw [<-hw.len, <-lp2];exact Hd (xb l1) (xb l2)
 have LL:(bg sc.names++as.map (λU=>U.arg)).Nodup:=by have:=m5 (f:=λx:Str=>x) L.dis;rwa [List.map_id'] at this
 have ZC:=uu LL L.ps;refine ae λjT=>?_;obtain ⟨q1,q2,q3,q4,q5⟩:=l8 L.ok;refine jT ?_;have ez:take' (bg sc.names).length ((p1++p2).zip (caps++ws))=p1.zip caps/\drop' (bg sc.names).length ((p1++p2).zip (caps++ws))=p2.zip ws:=by
  have e1:(p1.zip caps).length=(bg sc.names).length:=by rw [aa5,VB,N0,hc.len]
  rw [tA VB,jG,drop_eq];exact ⟨List.take_left' e1,List.drop_left' e1⟩
 rw [ez.1,ez.2] at w;have live: ∀{a o},z.y.J a=some o->z.s.heap.get? a=some o:=λe=>z.I.own _ _ (aJ e);refine kla_callFunE (dA K.dep (aw rfl)) (live h1) h3 (by rw [h7];exact q4) (by rw [h7];exact q3) h6 (by generalize fd.code=c at h12;induction h12 with|mk d1 d2 d3=>exact ⟨_,_,_,_,rfl,live d1,d2,d3⟩) ?_;refine pV (ds:=[]) h5 (zi.mp LL).2.1 (λ{R} h=>by rw [h10];exact wpAny_of_eq (a:=none) rfl (h none rfl)) (ke la) (by rw [la];exact eb _) (v3 _) ?_;rw [h7,h8,h9,abv,gn];simp only [acz,aan,pz,if_false];refine wpAny_bind (Kl<|wpAny_alloc ?_);rw [Fq (λn k cs hk=>by rcases k with _|_<;>first|rfl|exact (hk rfl).elim) (dU L.nc)];refine (pureO (wpAny_bind ?_));have F:FE {scope:=sc,locals:=z.s.heap.objs.size,globals:=abN,cells:=fd.closure,qual:=fd.qualname++ei ".<locals>.",func:=some a,code:=fd.code,frame:=some z.s.heap.objs.size,builtins:=abW} sc:=FE.same rfl L.ok rfl rfl;obtain ⟨I,l⟩:=z.enter (env:={scope:=sc,locals:=z.s.heap.objs.size,globals:=abN,cells:=fd.closure,qual:=fd.qualname++ei ".<locals>.",func:=some a,code:=fd.code,frame:=some z.s.heap.objs.size,builtins:=abW}) (sc:=sc) (cx:=λU=>none) (t:=z.s.toks) (.deeper K.frames F rfl) (aN _) (abF z.s.heap (.type "frame")) ⟨_,da _ rfl,λU=>rfl,_,_,rfl,λU he=>(wq _ he).elim⟩ (Keeps.push _ _) (λU U e=>nomatch e) (by rw [rZ,gc]) (CD L.nc q1 hp1 (zi.mp ZC).1 rfl hc);refine Kl<|jL (z:=⟨_,_,_,_,I⟩) F (f:=λx U=>do acm _ x.1 x.2;pure (.yield ⟨⟩)) (λU U U=>rfl) (vs:=ws) hp2 (hw.mono l.toUp) (λp hp u hu=>?_) λz2 d1 d2 d3=>?_
 ·have hpn:p∉(p1.zip caps).map (λU=>U.1):=by rw [pd (ke VB)];exact λhm=>(zi.mp ZC).2.2 _ hm _ hp rfl
  rw [mj hpn,cZ] at hu;exact Slot.noConfusion hu
 ·refine wpAny_pure ⟨z2.I.noLimit,kla_codeExpr ?_⟩;have w2:=Aq K (d1▸l) (z2:=z2) (out:=br [ah m] cf z2.ρ z2.H) (by rw [d2,d3];exact w);rw [JW] at w2;exact hb (K.kx F λ⟨i,nm,hc⟩=>(dU L.nc _ (dQ hc) rfl).elim) z2 _ _ (Po.first w2.leave (λh=>bI h) λr z3 v w U hr=>(oK.ret hr).done w)
end
end MP
end Mine.Lake
end
section
namespace Mine.Lake
namespace MP
open PySem PySem.W PyProof.Rows
noncomputable def LM(y:Wd):List (List Nat)->List V->List (Str×Value)->Prop
 |[],_,kvs=>kvs=[]
 |k::r,vs,kvs=> ∃v vs' x q,vs=v::vs'/\kvs=(strOf k,x)::q/\az y v x/\LM y r vs' q
theorem LM.mono(u:Up y y'){vs:List V}(h:LM y l vs kvs):LM y' l vs kvs:=by
 induction l generalizing vs kvs with
 |nil=>exact h
 |cons k r ih=>obtain ⟨v,vs,x,q,e1,e2,hv,h⟩:=h;exact ⟨v,vs,x,q,e1,e2,hv.mono u,ih h⟩
theorem LM.XD{y:Wd}{l:List (List Nat)}{vs:List V}{kvs:List (Str×Value)}(h:LM y l vs kvs){acc:List (List Nat×V)}{q:List (Str×Value)}(hp:tX y acc q)(hd:distinct (acc.map (λU=>U.1))=true):tX y (vg l vs acc) (merged q kvs)/\distinct ((vg l vs acc).map (λU=>U.1))=true:=by
 induction l generalizing vs kvs acc q with
 |nil=>cases h;exact ⟨hp,hd⟩
 |cons k r ih=>obtain ⟨v,vs,x,q',rfl,rfl,hv,h⟩:=h;exact ih h (Ai hv hp hd) (l5 hd)
abbrev LN(l:List (List Nat)):Rl (List V) (List (Value×Value)):=λC z vs ps=> ∃kvs,Carries (ed PT C.w) ps kvs/\LM z.y l vs kvs
theorem AE:lJ (LN l):=λU U U U U U u h=>h.imp λU h=>⟨h.1,h.2.mono u.up⟩
abbrev AF(e:Option bp)(k:List Nat):Prop:= ∃x a b,e=some (.Constant (.str x) a b)/\k=sl x
section
variable{sc:abL}{ks:List (Option bp)}{l:List (List Nat)}{es:List bp}{ms:List (M R)}{pos:Pos}
theorem Fv(hk:cM AF ks l)(hE:Each sc false es ms)(hl:es.length=l.length):Ref true (LN l) sc false (λenv=>acY (acZ ks es env pos)) (ja ms):=by
 induction hk generalizing es ms with
 |nil=>induction hE with
  |nil=>exact λk z Q E w=>wpAny_pure (w.ok' rfl z (bY.refl _ z) ⟨[],trivial,rfl⟩)
  |cons=>cases hl
 |cons h _ ih=>
  obtain ⟨x,a,b,rfl,rfl⟩:=h;induction hE with
  |nil=>cases hl
  |cons h hE=>
   intro k z Q E w;obtain ⟨I,A⟩:=z.tok (z.s.toks+1);refine pairTrees_cons_walk (Kl<|It ?_);exact two (z:=⟨_,_,_,_,I⟩) mT AE h.2.qM (ih hE (abD hl)) (w.mH A) λv vs z' y ps w U hv hr=>w.ok' rfl z' (bY.refl _ z') (hr.imp' (λq=>(x,y)::q) λq hr=>⟨⟨cR _ _,rfl,hr.1⟩,v,vs,y,q,rfl,by rw [b9],hv,hr.2⟩)
theorem sf{z:Z C}{vs:List V}{D:Addr}(w:Po true bK z (.ok (.own (.dict (vg l vs []))) z.ρ z.H) Q E)(hr:LM z.y l vs kvs)(hn:z.y.W D=none)(hD:h'.DictOf (ed PT C.w) D (merged [] kvs))(hS:gd D z.s.heap h')(t:Nat):Q (.ref D) {z.s with heap:=h',toks:=t}:=by
 refine ae λaA=>?_;obtain ⟨o',es',HX,a1,a2,a3,a4,a5,_⟩:=hD;obtain ⟨I2,A2⟩:=z.calm (.at hn hS.extBut) t;obtain ⟨hp,hd⟩:=hr.XD (acc:=[]) (q:=[]) rfl rfl;refine aA ?_;refine w.ok' rfl ⟨_,_,_,_,I2⟩ A2 ⟨⟨D,0⟩,rfl,λa q=>?_,o',es',HX,a1,a2,a3,Lv hp a5 λe he=>a4 e (vw.mp he),hd⟩;rcases q with rfl|⟨q,_⟩
 ·exact hn
 ·exact bI q
theorem CE(h:cM AF ks l):ks.all (λU=>U.isSome)=true:=by
 induction h with
 |nil=>rfl
 |cons h _ ih=>obtain ⟨x,a,b,rfl,_⟩:=h;exact ih
theorem JX(hk:cM AF ks l)(hE:Each sc false es ms)(hl:es.length=l.length)(Fw:eh l.length 15=true):aV sc false (.Dict ks es pos) (gJ l ms):=λk z Q E w=>by
 have hd0:(z.s.heap.push {cls:=.type "dict",data:=.dict #[]}).get? z.s.heap.objs.size=some {cls:=.type "dict",data:=.dict #[]}:=da _ rfl;have ZD: ∀{h:Heap},h.get? z.s.heap.objs.size=some {cls:=.type "dict",data:=.dict #[]}->h.DictOf (ed PT k.C.w) z.s.heap.objs.size []:=λe=>⟨_, #[],0,e,⟨rfl,rfl,rfl⟩,rfl,λe he=>(wq e he).elim,.nil,mB⟩;obtain ⟨I0,A0⟩:=z.iR (Keeps.push z.s.heap {cls:=.type "dict",data:=.dict #[]}) z.s.toks;have hn:=z.no (aN z.s.heap);have w:=w.mH A0;induction hk with
 |nil=>induction hE with
  |nil=>exact Kl<|wpAny_Dict_empty (sf (z:=⟨_,_,_,_,I0⟩) (kvs:=[]) w rfl hn (ZD hd0) (.refl ..) z.s.toks)
  |cons=>cases hl
 |cons h hk=>
  have hk':=cM.cons h hk;have ZE:=hk'.len;refine wpAny_Dict_walk (knd:=ed PT k.C.w) (CE hk') (ZE.trans hl.symm) nofun (ZE▸aw Fw) ?_
  refine Po.held (z:=⟨_,_,_,_,I0⟩) (fp:=[z.s.heap.objs.size]) w AE (Kt.mpr hn) (Kt.mpr ⟨_,hd0,nf (by decide)⟩) (λvs z' ps w A r hF hk2=>?_) λI' l' w'=>Fv hk' hE hl k (Z.re ⟨_,_,_,_,I0⟩ _ I') _ _ w';obtain ⟨kvs,hc,hr⟩:=r;exact ⟨kvs,hc,ZD (hk2 _ (dC.mpr rfl) _ hd0),λh' hD hS=>sf w hr (hF _ (dC.mpr rfl)) hD hS _⟩
end
end MP
end Mine.Lake
end
section
namespace Mine.Lake
namespace MP
open PySem PySem.W PyProof.Rows Builtin
open Sem (wp)
theorem Fx:mroOf (.type "bytearray")=pure [.type "bytearray",.type "object"]:=by rw [mroOf_type];kernel_rfl
theorem O1:ab5 (.type "bytearray") "__new__"=pure (some (.builtin "bytearray.__new__")):=by rw [abT,abO];kernel_rfl
theorem uv:xI "bytearray" "__init__" "bytearray.__init__":=
 .of (owner:="bytearray") (n:="__init__") (by rw [abT,abO];kernel_rfl) (by decide+kernel) (by decide+kernel) (by decide+kernel)
  (by first|exact .inl (by decide+kernel)|exact .inr (by decide+kernel)) (by rw [aca];kernel_rfl)
theorem CG:TypeCalled "bytearray" "bytearray.__new__" "bytearray.__init__":=
 ⟨by decide+kernel,by decide+kernel,⟨_,_,Fx⟩,madeBy_type Fx O1 (by decide+kernel),by decide+kernel,yc,uv⟩
theorem wI(a:Value):checkTypeCall "bytearray" ⟨[a],[]⟩=pure ():=by kernel_rfl
theorem yX(a:Value):abV "bytearray.__new__" ⟨[.type "bytearray",a],[]⟩=pure ():=by kernel_rfl
theorem wJ:plainId "bytearray.__new__"=true:=by decide+kernel
theorem Fy:acj acE "bytearray.__new__"=some Builtin.«list.__new__»:=
 entryFor_alias (id':="list.__new__") (by kernel_rfl) (by first|rfl|decide+kernel|(unfold abl;simp+decide [aaC])) (by decide+kernel) (by kernel_rfl)
theorem q7:acj acE "bytearray.__init__"=some Builtin.«bytearray.__init__»:=acH (by kernel_rfl)
theorem JY(v:Value):Bytes.bindOptional "bytearray.__init__" "bytearray" ["source","encoding","errors"] [v] []=pure [some v,none,none]:=by kernel_rfl
theorem uw(a b:Value):acN "bytearray.__init__" ⟨[a,b],[]⟩:=by
 unfold acN;rw [acV (id:="bytearray.__init__") (n:=['_','_','t','i','n','i','_','_']) (o:=['y','a','r','r','a','e','t','y','b']) (by kernel_rfl) lW];kernel_rfl
theorem jw:ab5 (.type "bytes") "__index__"=pure none:=by rw [abT,abO];kernel_rfl
set_option maxRecDepth 1000000 in
set_option maxHeartbeats 4000000 in
theorem Fz:("bytearray.__new__".splitOn ".__new__").headD ""="bytearray":=by simp+decide [abl,aaC]
section
variable{prog:Program}{w:abR}{A:Around}{E:Value->Shared->Prop}{s:Shared}
theorem kf{M:ab0}{a b:Sem α}{Q:α->Shared->Prop}(hc:c=false)(h:wpAny M A b Q E s):wpAny M A (if c=true then a else b) Q E s:=by
 rw [hc,if_neg hH];exact h
theorem kt{M:ab0}{a b:Sem α}{Q:α->Shared->Prop}(hc:c=true)(h:wpAny M A a Q E s):wpAny M A (if c=true then a else b) Q E s:=by
 rw [hc,if_pos rfl];exact h
theorem dn[Decidable p]{α:Type}{t:p->α}{e: ¬p->α}{x:α}(hp: ¬p)(h:e hp=x):dite p t e=x:=(dif_neg hp).trans h
theorem wK{id:String}(h:fR id=true)(x:String)(hx:fR x=false): ¬id=x:=λe=>by rw [e,hx] at h;exact bI h
theorem wL{M:ab0}{Q:Bool->Shared->Prop}(h:Q false s):wpAny M A (Bytes.exported x) Q E s:=λΓ p i k=>by
 unfold Bytes.exported;rw [Sem.wp_bind'];unfold stack;rw [Sem.wp_stack];show Q (List.any ((Γ.code,p)::Γ.below) _) s;rw [q0.mpr]
 ·exact h
 ·rintro ⟨c,q⟩ hq
  have hc:i7 c=true:=(de.mp hq).elim (λe=>(kj e).1▸k.1) λhq=>k.2 _ hq;induction c with
  |builtin id args=>
   have hd:Bytes.decodersThatHold.contains id=false:=by
    have hc:(!(guardIds.contains id||Bytes.decodersThatHold.contains id))=true:=hc;rw [Bool.not_eq_true'] at hc;exact (Ha.mp hc).2
   refine λe=>hH (Eq.trans (Eq.symm ?_) e);obtain ⟨l,kw⟩:=args;delta aas;refine dn (wK hc _ (by decide+kernel)) (dn (wK hc _ (by decide+kernel)) (dn (wK hc _ (by decide+kernel)) (dn (wK hc _ (by decide+kernel)) (dn (wK hc _ (by decide+kernel)) ?_))));induction l with
   |nil=>rfl
   |cons v r=>exact (congrArg (λU=>Bytes.sameRef v x&&U) hd).trans (abg _)
  |_=>exact hH
theorem wM(a:Value)(h:Q₁ (.ref s.heap.objs.size) {s with heap:=s.heap.push {cls:=.type "bytearray",data:=.bytearray #[]}}):
  Iy (abJ prog w) A (.call (.builtin "bytearray.__new__") ⟨[.type "bytearray",a],[]⟩) (wants Q₁ E) s:=by
 refine SU ?_;refine (Df (yX a) (cp ⟨adX wJ _,codeAny_builtin_stack Fy rfl λp st=>?_⟩));rw [FC wJ _];have hsub:=yc;have hown:=Fz;obtain ⟨hp,g,d,tk,os⟩:=s;simp only [hown]
 wp_walk
 exact h
theorem yY{T newId initId:String}{Bi:Builtin}(ft:TypeCalled T newId initId)(hct:checkTypeCall T ⟨args,[]⟩=pure ())(entryI:acj acE initId=some Bi)
  (hnew:Iy (abJ prog w) A.in1 (.call (.builtin newId) ⟨.type T::args,[]⟩) (wants Q₁ E) s)
  (hnext: ∀obj s₁,Q₁ obj s₁->s₁.TypeIs obj T/\acN initId ⟨obj::args,[]⟩/\wpAny (abJ prog w) A.in1.in1 (Bi ⟨obj::args,[]⟩) (λfin s'=>fin=.done (.ret .none)/\Q obj s') E s₁) (hk:autoParam (fR initId=true) vx._auto_1):
  wpAny (abJ prog w) A (call (.type T) args) Q E s:=by
 refine ae λaA=>?_;obtain ⟨c,tl,MF⟩:=ft.mro;refine aA ?_;have hmade:=ft.made;have hsub:=ft.sub;have h1:=ft.notType;have h2:=ft.canCreate;refine wpAny_call (codeAny_of_tree ?_);refine wpAny_pure ⟨ta _ (by decide+kernel),codeAny_builtin F.entry_type_call ?_⟩;rw [Around.under_plain (weight_type_call_type T args []) rfl];unfold Builtin.«type.__call__»;refine kf h1 ?_;refine kf h2 ?_;refine (xD hct ?_);refine (xD MF ?_);refine kf rfl ?_;refine (xD hmade ?_);refine (pureO ?_);refine (fm (Kl (vu (PySem.codeAny_mono hnew λr s₁ hr=>?_))));induction r with
 |error e=>exact hr
 |ok fl=>
  induction fl with
  |ret obj=>
   refine ae λb8=>?_;obtain ⟨hT,hok,hsi⟩:=hnext _ _ hr;refine b8 ?_;have hli:=ft.init.lookup;have hbi:=ft.init.bind obj;refine wpAny_bind (Kl (acI hT hsub ?_));refine kf rfl ?_;refine (fm ?_);refine wpAny_callSpecial?_slot (name:="__init__") hT ft.init ?_;refine wpAny_call_entry ft.init hT entryI (wpAny_mono hsi (λfin s' h=>?_) λU U x=>x) hok hk;refine ae λjT=>?_;obtain ⟨rfl,h⟩:=h;refine jT ?_;exact ⟨_,rfl,wpAny_pure h⟩
  |_=>exact hr.elim
theorem qn{M:ab0}{Q:Unit->Shared->Prop}(h:dS s.heap a arr)(hz:(f arr).size<=abQ)
  (hq: ∀h',dS h' a (f arr)->gd a s.heap h'->Q () {s with heap:=h'}):ax M A (Bytes.write (.ref a) f) Q E s:=by
 refine ae λaA=>?_;obtain ⟨o,h1,h2,h3⟩:=h;refine aA ?_;show ax _ _ (updateBytearray a f) _ _ _;unfold updateBytearray;refine (ve h1 ?_);rw [h3];show ax _ _ (update a (aaY f)>>=λU=>lookBehind a) _ _ _;refine bc (wpAny_update h1 ?_);refine ae λb8=>?_;obtain ⟨c,d,dt,sl⟩:=o;have h3:dt=.bytearray arr 0:=h3;subst h3;refine b8 ?_;have hs:(s.heap.update a (aaY f)).get? a=some ⟨c,d,.bytearray (f arr) 0,sl⟩:=ew _ h1 rfl;refine adz hs ?_ (hq _ ⟨_,hs,h2,rfl⟩ (lk ..));show (if (f arr).size>abQ then some "bytearray:memory" else none)=none;rw [if_neg (by lia)]
theorem yZ{M:ab0}{Q:Bool->Shared->Prop}(h:dS s.heap a arr)(hq:Q false s):ax M A (Bytes.ownRelease (.ref a)) Q E s:=by
 unfold Bytes.ownRelease;exact bc (kR h pL (by decide+kernel) (by decide+kernel) (cp hq))
theorem y9{M:ab0}{Q:Nat->Shared->Prop}(h:dS s.heap a arr)(hq:Q 0 s):ax M A (Bytes.exportsOf (.ref a)) Q E s:=by
 refine ae λaA=>?_;obtain ⟨o,h1,h2,h3⟩:=h;refine aA ?_;unfold Bytes.exportsOf;refine (ve h1 ?_);rw [h3];exact cp hq
theorem FA{M:ab0}{Q:Bool->Shared->Prop}(h:dS s.heap a arr)(hq:Q false s):wpAny M A (orM (Bytes.exported (.ref a)) (do return (<-Bytes.exportsOf (.ref a))>0)) Q E s:=by
 unfold orM;exact wpAny_bind (wL (wpAny_bind (Kl (y9 h (wpAny_pure hq)))))
theorem CH{M:ab0}{Q:Fin->Shared->Prop}(h:dS s.heap a #[])(hz:b.size<=abQ)(hq: ∀h',dS h' a b->gd a s.heap h'->Q (.done (.ret .none)) {s with heap:=h'}):
  wpAny M A (Builtin.«bytearray.__init__» ⟨[.ref a,.bytes b t],[]⟩) Q E s:=by
 unfold Builtin.«bytearray.__init__»;refine wpAny_bind (Kl (yZ h ?_));refine kf rfl ?_;refine (xD (JY _) ?_);refine (xD (a:=()) rfl ?_);refine (xD (a:=()) rfl ?_);refine wpAny_bind (FA h ?_);refine kf rfl ?_;refine wpAny_bind (Kl (qn h (v3 _) λh1 hb1 hs1=>?_));refine (xD (a:=none) rfl ?_);refine kf rfl ?_;refine wpAny_bind (kf rfl (kf rfl (wpAny_pure ?_)));refine (xD (yA jw) ?_);refine kf rfl ?_;refine (xD abw ?_);refine (rq ?_);refine wpAny_bind (Kl (qn hb1 hz λh2 hb2 hs2=>?_));exact wpAny_pure (hq h2 hb2 (hs1.trans hs2))
theorem SM(hz:b.size<=abQ)(hq: ∀h',dS h' s.heap.objs.size b->Keeps s.heap h'->Q (.ref s.heap.objs.size) {s with heap:=h'}):
  wpAny (abJ prog w) A (call (.type "bytearray") [.bytes b t]) Q E s:=by
 refine yY (Q₁:=λobj s₁=>obj=.ref s.heap.objs.size/\s₁={s with heap:=s.heap.push {cls:=.type "bytearray",data:=.bytearray #[]}}) CG (wI _) q7 (wM _ ⟨rfl,rfl⟩) λobj s₁ h₁=>?_;obtain ⟨rfl,rfl⟩:=h₁;have hb:dS (s.heap.push {cls:=.type "bytearray",data:=.bytearray #[]}) s.heap.objs.size #[]:=⟨_,da _ rfl,rfl,rfl⟩;refine ⟨hb.typeIs (s:={s with heap:=_}),uw _ _,CH (s:={s with heap:=_}) hb hz λh' hb' hs'=>⟨rfl,hq h' hb' λc o hc=>?_⟩⟩;exact hs'.extBut c o (λe=>by rw [e,lb (eb _)] at hc;exact bw (hc)) (cn _ hc)
end
end MP
end Mine.Lake
end
section
namespace Mine.Lake
namespace MP
open PySem PySem.W PyProof.Rows Builtin
section
variable{prog:Program}{w:abR}{A:Around}{E:Value->Shared->Prop}{s:Shared}
theorem nJ{M:ab0}{Q:Option Int->Shared->Prop}(h:s.TypeIs (.ref a) "slice")(hq:Q none s):ax M A (Bytes.subscript? (.ref a)) Q E s:=by
 unfold Bytes.subscript?;exact (oX h slice_no_index (cp hq))
theorem m7{M:ab0}{i j:Int}{Q:Value×Value×Value->Shared->Prop}(h:s.heap.IsSliceOf a (.int i t) (.int j u) .none)(hq:Q (rawPart (some i),rawPart (some j),rawPart none) s):
  ax M A (Bytes.sliceParts (.ref a)) Q E s:=by
 refine ae λaA=>?_;obtain ⟨o,ho,hc,hd⟩:=h;refine aA ?_;unfold Bytes.sliceParts;refine (dj (x:=.none) ho hd rfl ?_)
 kby_none
 refine PySem.wpAny_ite (KBy.ite_no (show ¬((rk==aco 0)=true) from hH) ?_);refine (dj (x:=.int i t) ho hd rfl ?_)
 kby_int
 refine (dj (x:=.int j u) ho hd rfl ?_)
 kby_int
 exact cp hq
theorem O2(a:Addr)(arr:Array UInt8)(c:Addr)(i j:Int)(t u:Tok)(hz:arr.size<=abQ):
  Meets (Builtin.«bytearray.__getitem__» ⟨[.ref a,.ref c],[]⟩) (λU R s=>dS s.heap a arr/\s.heap.IsSliceOf c (.int i t) (.int j u) .none/\
   R (.ok (.ret (.ref s.heap.objs.size))) {s with heap:=s.heap.push {cls:=.type "bytearray",data:=.bytearray (aa8 arr (some i) (some j))}}):=
 .of_wp λprog w A R s hh=>by
  refine ae λaA=>?_;have h1:=hh.1;have h2:=hh.2.1;have h3:=hh.2.2;refine aA ?_;have hT:s.TypeIs (.ref c) "slice":=let ⟨o,ho,hc,_⟩:=h2;⟨o,ho,hc⟩;show ax _ _ (Bytes.subscript? (.ref c)>>=λr=>_) _ _ s;refine bc (nJ hT ?_);refine (zQ hT ?_);refine ach rfl ?_;refine bc (m7 h2 ?_);refine bc (eW h1 ?_);refine (Df (sliceIndices_raw (some i) (some j) none arr.size (λe=>nomatch e)) ?_);refine bc ?_;unfold Bytes.newBytearray;refine Qb (hd:=bt (aat arr (some i) (some j)) hz) ?_;exact cp ⟨_,rfl,h3⟩
theorem wN{i j:Int}(h:dS s.heap a arr)(hs:s.heap.IsSliceOf c (.int i t) (.int j u) .none)(hz:arr.size<=abQ)
  (hq:Q (.ref s.heap.objs.size) {s with heap:=s.heap.push {cls:=.type "bytearray",data:=.bytearray (aa8 arr (some i) (some j))}}):ax (abJ prog w) A (getItem (.ref a) (.ref c)) Q E s:=
 getItem_meets h.typeIs (by decide) dJ gT (iL _ _) (O2 a arr c i j t u hz) ⟨h,hs,hq⟩
theorem FD{α:Type}(l:List α)(i j:Nat):(l.drop (min i l.length)).take (min j l.length-min i l.length)=(l.drop i).take (j-i):=by
 rcases Nat.le_total i l.length with h|h
 ·rw [Hb h,List.take_eq_take_iff,List.length_drop, <-Nat.sub_min_sub_right,Nat.min_assoc,N0]
 ·rw [Nat.min_eq_right h,List.drop_length,List.drop_eq_nil_of_le h,abx,abx]
theorem za(arr:Array UInt8)(i j:Nat):(aa8 arr (some (i:Int)) (some (j:Int))).toList=(arr.toList.drop i).take (j-i):=by
 rw [KBc.picked_eq];simp only [aaK,clipAt_nat];rw [<-eA,FD]
theorem iN:xI "bytearray" "__setitem__" "bytearray.__setitem__":=
 .of (owner:="bytearray") (n:="__setitem__") (by rw [abT,abO];kernel_rfl) (by decide+kernel) (by decide+kernel) (by decide+kernel)
  (by first|exact .inl (by decide+kernel)|exact .inr (by decide+kernel)) (by rw [aca];kernel_rfl)
theorem m8:acj acE "bytearray.__setitem__"=some Builtin.«bytearray.__setitem__»:=acH (by kernel_rfl)
theorem oq(a b c:Value):acN "bytearray.__setitem__" ⟨[a,b,c],[]⟩:=by
 unfold acN;rw [acV (id:="bytearray.__setitem__") (n:=['_','_','m','e','t','i','t','e','s','_','_']) (o:=['y','a','r','r','a','e','t','y','b']) (by kernel_rfl) lW];kernel_rfl
theorem uz:ab5 (.type "bytes") "__int__"=pure none:=by rw [abT,abO];kernel_rfl
theorem qo:ab5 (.type "bytes") "__float__"=pure none:=by rw [abT,abO];kernel_rfl
theorem mq:isSubtype (.type "bytes") (.type "complex")=pure false:=by rw [aca];kernel_rfl
theorem uB:isSubtype (.type "bytes") (.type "bytearray")=pure false:=by rw [aca];kernel_rfl
theorem FF{M:ab0}{Q:Unit->Shared->Prop}(h:dS s.heap a arr)(hq:Q () s):wpAny M A (Bytes.checkResize (.ref a)) Q E s:=by
 unfold Bytes.checkResize;exact wpAny_bind (FA h (kf rfl (wpAny_pure hq)))
theorem zb(hij:i<=j)(hj:j<=n):sliceBounds (some (i:Int)) (some (j:Int)) none n=((i:Int),(j:Int),1):=by
 have e {x:Nat} (h:x<=n):(if (x:Int)<0 then n-(-(x:Int)).toNat else min (x:Int).toNat n)=x:=by
  rw [if_neg (ro.mpr (eI x)),zt,Hb h]
 rw [kms_bounds,show kms_lo (some (i:Int)) n=i from e (bt hij hj),show kms_hi (some (j:Int)) n=j from e hj]
theorem FG{arr b:Array UInt8}(hij:i<=j)(hj:j<=arr.size)(hz:arr.size+b.size<=abQ):(arr.extract 0 i++b++arr.extract j arr.size).size<=abQ:=by
 rw [aaD,aaD,aau,aau,Hb (bt hij hj),N0,NM,hY];exact bt (eM (bt (eM hij _) (ke (Nat.add_sub_cancel' hj))) _) hz
theorem FH{i j:Nat}{Q:Fin->Shared->Prop}(h:dS s.heap a arr)(hs:s.heap.IsSliceOf c (.int i t) (.int j u) .none)(hij:i<=j)(hj:j<=arr.size)(hz:arr.size+b.size<=abQ)
  (hq: ∀h',dS h' a (arr.extract 0 i++b++arr.extract j arr.size)->eC a s.heap h'->Q (.done (.ret .none)) {s with heap:=h'}):
  wpAny (abJ prog w) A (Builtin.«bytearray.__setitem__» ⟨[.ref a,.ref c,.bytes b v],[]⟩) Q E s:=by
 have hT:s.TypeIs (.ref c) "slice":=let ⟨o,ho,hc,_⟩:=hs;⟨o,ho,hc⟩;unfold Builtin.«bytearray.__setitem__»;dsimp only;refine kf rfl ?_;refine wpAny_bind (Kl (nJ hT ?_));dsimp only;refine wpAny_bind (Kl (wpAny_typeOf hT ?_));refine kf rfl ?_;refine wpAny_bind (Kl (m7 hs ?_));refine kf rfl ?_;refine (xD (a:=false) uB ?_);refine kt rfl ?_;refine (xD (a:=false) ?_ ?_)
 ·unfold orM;rw [yA jw,yA uz,yA qo];exact mq
 refine (xD (a:=none) rfl ?_);refine kf rfl ?_;refine (rq ?_);refine wpAny_bind (SM (bt (ky _ _) hz) λh1 hb1 hk1=>?_);refine ae λaA=>?_;obtain ⟨ob,ho1,ho2,ho3⟩:=id h;obtain ⟨os,hs1,hs2,hs3⟩:=id hs;refine aA ?_;have h':dS h1 a arr:=⟨ob,hk1 _ _ ho1,ho2,ho3⟩;have hs':h1.IsSliceOf c (.int i t) (.int j u) .none:=⟨os,hk1 _ _ hs1,hs2,hs3⟩;refine (fm (Kl (m7 hs' ?_)));refine wpAny_bind (Kl (eW hb1 ?_));refine wpAny_bind (Kl (eW h' ?_));refine (xD (sliceIndices_raw (some (i:Int)) (some (j:Int)) none arr.size (λe=>nomatch e)) ?_);rw [zb hij hj];have fin:wpAny (abJ prog w) A (do Bytes.write (.ref a) λc=>c.extract 0 (i:Int).toNat++b++c.extract (max (i:Int) j).toNat c.size;ret .none) Q E {s with heap:=h1}:=by
  have e1:(max (i:Int) j).toNat=j:=by rw [Int.max_eq_right (kV.mpr hij),zt]
  refine wpAny_bind (Kl (qn (arr:=arr) h' ?_ λh2 hb2 hs2=>?_))
  ·rw [e1];exact FG hij hj hz
  ·refine wpAny_pure (hq h2 ?_ λx o hx e=>hs2.extBut x o hx (hk1 x o e));rw [e1] at hb2;exact hb2
 refine kt rfl ?_;refine (rq ?_);refine wpAny_ite ?_;split
 ·exact wpAny_bind (FF h' fin)
 ·exact fin
theorem q9{i j:Nat}{Q:Unit->Shared->Prop}(h:dS s.heap a arr)(hs:s.heap.IsSliceOf c (.int i t) (.int j u) .none)(hij:i<=j)(hj:j<=arr.size)(hz:arr.size+b.size<=abQ)
  (hq: ∀h',dS h' a (arr.extract 0 i++b++arr.extract j arr.size)->eC a s.heap h'->Q () {s with heap:=h'}):wpAny (abJ prog w) A (ac2 (.ref a) (.ref c) (.bytes b v)) Q E s:=by
 unfold ac2;refine wpAny_holding ?_;refine wpAny_bind (Kl (ad7 h.typeIs (by decide) ?_));refine wpAny_bind (wpAny_callSpecial?_slot (name:=ei "__setitem__") h.typeIs iN
  (wpAny_call_entry iN h.typeIs m8 (FH h hs hij hj hz λh' hb hk=>⟨_,rfl,?_⟩) (oq _ _ _)))
 exact wpAny_pure (hq h' hb hk)
end
end MP
end Mine.Lake
end
section
namespace Mine.Lake
namespace MP
open PySem PySem.W PyProof.Rows
theorem O3{rel:Rl α γ}(hd:tB rel):tB (λC z (a:α×V) (x:γ×Value)=>rel C z a.1 x.1/\az z.y a.2 x.2):=λC z a x h=>(hd C z a.1 x.1 h.1).imp λy q=>q.imp λI q=>⟨q.1,λz' A=>(q.2 z' A).imp λy' q=>q.imp λI' q=>⟨q.1,q.2.1,q.2.2,h.2.mono q.1.toUp⟩⟩
theorem uC(h:Dn v=some i):v=.int i:=aQ h λj e h=>by rw [tD e,lT h]
theorem sj(h:asBytes v=some b):v=.bytes b:=by rcases v with _|_<;>first|(rcases h with _|_;rfl)|exact bw h
theorem FI{G:Prop}(h:az y (.bytes b) x)(k: ∀arr t,x=.bytes arr t->arr.toList.map ki=b->b.length=arr.size->G):G:=by
 obtain ⟨arr,t,e,q⟩:=h;exact k arr t e q (by rw [<-q,df,eA])
section
variable{sc:abL}{x:Str}(np p2 p3 pos:Pos)
theorem JZ(h:aV sc false e m)(he:Plain e)(hg:glob sc x=some (.bi 6)):aV sc false (.Call (.Name x np) [e] [] pos) (vm m):=
 pN rfl (.ty _) hg h he λk z a v Q E w hr=>w.opt λb e w=>w.guard λg w=>FI ((rd hr).y _ e) λarr t e1 e2 e3=>by
  subst e1;refine SM (by rw [<-e3];exact bE g) λh' hb hk=>?_;refine ae λaA=>?_;obtain ⟨o,o1,o2,o3⟩:=hb;refine aA ?_;refine w.shared (p:=⟨z.s.heap.objs.size,0⟩) hk (λa q=>?_) ⟨o,arr,o1,o2,o3,e2⟩;rcases q with rfl|⟨q,_⟩
  ·exact aN _
  ·exact bI q
variable{o lo hi:bp}{mo ml mh:M R}(hO:aV sc false o mo)(hl:aV sc false lo ml)(hu:aV sc false hi mh)
include hO hl hu
theorem nM{k:Kx sc false}{z:Z k.C}{rel:Rl α γ}{f:R->V->V->MP.Env->Hp->Out α}{Q:γ->Shared->Prop}{K:Value->Value->Shared->Prop}(w:Po b rel z ((mo k.cf z.ρ z.H).bind λa ρ H=>(fE ml k.cf ρ H).bind λx ρ H=>(fE mh k.cf ρ H).bind (f a x)) Q E)
  (hK: ∀a x y (z':Z k.C) u v w,Po b rel z' (f a x y z'.ρ z'.H) Q E->bY b z z'->bK k.C z' a u->az z'.y x v->az z'.y y w->K u (.ref z'.s.heap.objs.size) {z'.s with heap:=z'.s.heap.push {cls:=.type "slice",data:=.fields #[v,w,.none]}}):
  wpAny k.M k.A (eval o k.C.env) (λu s=>wpAny k.M k.A (eval (.Slice (some lo) (some hi) .none p2) k.C.env) (K u) E s) E z.s:=
 one hO w (λa z1 u w A1 hr=>wpAny_Slice (snd dm ji hl.plain hr w λx z2 v w A2 hr hy=>snd (O3 dm) ji hu.plain (a:=(a,x)) (x:=(u,v)) ⟨hr,hy⟩ w λy z3 t w A3 hr ht=>wpAny_pure (hK a x y z3 u v t w ((A1.trans A2).trans A3) hr.1 hr.2 ht))) λU=>rfl
theorem uD(hg:glob sc x=some (.bi 5)):aV sc false (.Call (.Name x np) [.Subscript o (.Slice (some lo) (some hi) .none p2) p3] [] pos) (HU mo ml mh):=λk z Q E w=>by
 refine Call_name1 rfl (Kl<|tQ hg rfl (callWith_type1 (lY (λU U=>⟨_,rfl⟩) (nM p2 hO hl hu w λa x y z' u v t w A hr hx hy=>w.opt λr e w=>aQ e λb e1 e=>aQ e λi e2 e=>aQ e λj e3 e=>cN e λg e=>gz g λg1 g=>gz g λg2 g3=>?_))));rw [uC e2] at hx;rw [uC e3] at hy;obtain ⟨ti,rfl⟩:=hx;obtain ⟨tj,rfl⟩:=hy;obtain ⟨a1,arr,rfl,hB,e4⟩:=((rd hr).a _ e1).ba;have e5:b.length=arr.size:=by rw [<-e4,df,eA]
 have hz:arr.size<=abQ:=e5▸bE g3;have hS:=xl z'.s.heap (.int (i:Int) ti) (.int (j:Int) tj) .none;have ZF:dS (z'.s.heap.push {cls:=.type "slice",data:=.fields #[.int (i:Int) ti,.int (j:Int) tj,.none]}) a1 arr:=hB.imp λU q=>⟨cn _ q.1,q.2⟩;refine ⟨"bytearray","bytearray.__getitem__",dJ.lookup,ZF.typeIs (s:={z'.s with heap:=_}),wN (s:={z'.s with heap:=_}) ZF hS hz (Kl<|nA (s:={z'.s with heap:=_}) ⟨_,da _ rfl,rfl,rfl⟩ (bt (aat arr _ _) hz) λt k=>(w.new.to e).Na (x:=.bytes _ t) ⟨_,t,rfl,?_⟩ ((Keeps.push _ _).trans (Keeps.push _ _)) k)⟩;rw [za,jG,drop_eq, <-e4,List.map_take,List.map_drop]
omit hO hl hu in
theorem uE(arr w:Array UInt8)(hj:j<=arr.size):(arr.extract 0 i++w++arr.extract j arr.size).toList=arr.toList.take i++w.toList++arr.toList.drop j:=by
 simp [List.extract_eq_take_drop];exact List.take_of_length_le (by simp)
theorem J0:eH false sc (.Subscript o (.Slice (some lo) (some hi) .none p2) pos) (xK mo ml mh):=λk z r v Q E hr w=>by
 rw [adU];refine lZ (K:=λs=>wpAny k.M k.A _ (λU=>Q) E s) hr w λyv z w U ZG=>?_;refine sh (nM (K:=λov iv s₂=>wpAny k.M k.A (ac2 ov iv v) (λU=>Q) E s₂) p2 hO hl hu w λa x y z' u xv yv' w A hr hx hy=>rQ hr w λix ob p q a1 a2 a3 h obA w=>aQ h λi e2 h=>aQ h λj e3 h=>aQ h λwl e4 h=>aQ h λb e5 h=>cN h λg e6=>gz g λg1 g=>gz g λg2 g3=>?_) λov s₁ h=>sh h λiv s₂ h=>sd (sh h λU s₃ h=>Kl<|adZ h);cases Jj e5;cases ag e6;rw [uC e2] at hx;rw [uC e3] at hy;rw [sj e4] at ZG;refine ae λaA=>?_;obtain ⟨ti,rfl⟩:=hx;obtain ⟨tj,rfl⟩:=hy;obtain ⟨w',t,rfl,e⟩:=ZG;subst a3;obtain ⟨ob,arr,o1,o2,o3,o4⟩:=obA.o;refine aA ?_;have l1:b.length=arr.size:=by rw [<-o4,df,eA]
 have l2:wl.length=w'.size:=by rw [<-e,df,eA]
 have hS:=xl z'.s.heap (.int (i:Int) ti) (.int (j:Int) tj) .none;have hB:dS (z'.s.heap.push {cls:=.type "slice",data:=.fields #[.int (i:Int) ti,.int (j:Int) tj,.none]}) p.a arr:=⟨ob,cn _ o1,o2,o3⟩;have hj:j<=arr.size:=l1▸aw g2;refine q9 (s:={z'.s with heap:=_}) hB hS (aw g1) hj (by rw [<-l1, <-l2];exact bE g3) λh' hb hk=>?_;refine ae λb8=>?_;obtain ⟨o',b1,b2,b3⟩:=hb;refine b8 ?_;exact w.Jp a1 a2 rfl (.inl rfl) (λa o n e=>hk a o n (cn _ e)) ⟨o',_,b1,b2,b3,by rw [uE arr w' hj,Zc,jG,drop_eq, <-o4, <-e];simp⟩ z'.s.toks
end
end MP
end Mine.Lake
end
section
namespace Mine.Lake
namespace MP
open PySem PySem.W PyProof.Rows Builtin
theorem qp:xI "bytes" "join" "bytes.join":=
 .of (owner:="bytes") (n:="join") (by rw [abT,abO];kernel_rfl) (by decide+kernel) (by decide+kernel) (by decide+kernel)
  (by first|exact .inl (by decide+kernel)|exact .inr (by decide+kernel)) (by rw [aca];kernel_rfl)
theorem wO:acj acE "bytes.join"=some Builtin.«bytes.join»:=acH (by kernel_rfl)
theorem zc(a b:Value):acN "bytes.join" ⟨[a,b],[]⟩:=by
 unfold acN;rw [acV (id:="bytes.join") (n:=['n','i','o','j']) (o:=['s','e','t','y','b']) (by kernel_rfl) FB.owner_bytes];kernel_rfl
theorem zd:ad0 (.builtin "bytes.join")=pure (.type "method_descriptor"):=by show builtinType _=_;rw [builtinType_eq_fast];kernel_rfl
theorem ze{id:String}:Bytes.takeBufferQuiet? id (.bytes b t) 0=pure (some (b,none)):=by
 have e:Bytes.takeBuffer? id (.bytes b t) 0=pure (some (b,none)):=by
  unfold Bytes.takeBuffer?;rw [yA KBy.look_buffer];rw [pure_bind];rw [KBy.own_buffer];rw [pure_bind];show (do return (<-Bytes.buffer? id (.bytes b t) (0==Bytes.fullReadOnly)).map (λU=>(U,none)))=_;rw [show (0==Bytes.fullReadOnly)=false from rfl,abw];rfl
 unfold Bytes.takeBufferQuiet?;rw [e];rfl
theorem qq: ∀(l:List (Array UInt8)) (n:Nat) (acc:Array UInt8),((l.zipIdx n).foldl (λout (x:Array UInt8×Nat)=>(if x.2>0 then out++ #[] else out)++x.1) acc).toList=acc.toList++l.flatMap (λU=>U.toList)
 |[],_,acc=>by simp
 |a::l,n,acc=>by
  (rewrite [List.zipIdx_cons,aa9,qq l];try with_reducible rfl)
  simp
theorem qt(l:List (Array UInt8)):Bytes.joined #[] l=(l.flatMap (λU=>U.toList)).toArray:=by
 apply aaV.mp
 have:=qq l 0 #[]
 simpa [Bytes.joined] using this
theorem su: ∀(l:List (Array UInt8)) (n:Nat),l.foldl (λa b=>a+b.size) n=n+(l.flatMap (λU=>U.toList)).length
 |[],n=>by simp
 |a::l,n=>by rw [aa9,su l,aaE,dk,fw];rfl
theorem qu{M:ab0}{Q:Unit->Shared->Prop}(h:Q () s): ∀l:List Value,ax M A (Bytes.joinLetGo (l.map λx=>(x,none)) keep) Q E s
 |[]=>cp h
 |x::l=>by
  exact bc (aeb (qu h l))
noncomputable def LP(ps:List (Array UInt8×Tok)):List Value:=ps.map λp=>.bytes p.1 p.2
theorem O4{M:ab0}{m m':Sem α}{Q:α->Shared->Prop}(e:m=m')(h:ax M A m' Q E s):ax M A m Q E s:=e▸h
theorem J1{β:Type}(h:its.toList.length≠1)(f:Value->β)(g:β):Bytes.joinM.match_1 (λU=>β) its f (λU=>g)=g:=by
 obtain ⟨li⟩:=its
 match li,h with
 |[],_=>rfl
 |[_],h=>exact absurd rfl h
 |_::_::_,_=>rfl
theorem wQ(l:Addr)(t0:Tok)(ps:List (Array UInt8×Tok)):
  Meets (Builtin.«bytes.join» ⟨[.bytes #[] t0,.ref l],[]⟩) (λU R s=>s.heap.IsList l (LP ps).toArray/\(ps.flatMap (λU=>U.1.toList)).length<=abQ/\
   ∀t k,R (.ok (.ret (.bytes (ps.flatMap (λU=>U.1.toList)).toArray t))) {s with toks:=k}):=
 .of_wp λprog w A R s hh=>by
  refine ae λaA=>?_;obtain ⟨h1,h2,h3⟩:=hh;obtain ⟨o,ho,hc,ep,hd⟩:=id h1;refine aA ?_;unfold Builtin.«bytes.join» Bytes.joinM;refine (Df (a:=(.bytes #[] t0,.ref l)) rfl ?_);refine ac6 rfl ?_;refine bc ?_;unfold Bytes.joinItems;refine (zQ (T:="list") ⟨o,ho,hc⟩ ?_);refine ac6 rfl (cp ?_);refine (sL ho hd ?_);refine ac6 rfl ?_;by_cases hl:ps.length=1
  ·match ps,hl with
   |[p],_=>
    refine (zQ (typeIs_bytes _ _ _) ?_);refine ac6 rfl ?_;refine (zP ?_);refine cp ⟨_,rfl,?_⟩
    have:=h3 p.2 s.toks
    (rewrite [show ([p].flatMap λx=>x.1.toList).toArray=p.1 by simp] at this;try with_reducible rfl)
    exact this
  ·refine O4 (J1 (its:=(LP ps).toArray) (λe=>hl ((df _).symm.trans e)) _ _) ?_;refine bc ?_
   (rewrite [aaf];try with_reducible rfl)
   have hn:(aaN (LP ps)).size=ps.length:=df _;refine PySem.wpAny_forIn_list _ (λr b s'=>s'=s/\ ∃k,k+r.length=ps.length/\r=aaL k (ps.length-k)/\b=((ps.take k).map (λU=>U.1) |>.toArray,(LP (ps.take k)).map λx=>(x,none))) _ ?_ ?_ _ _ ?_
   ·rintro x rest b s' ⟨rfl,k,k1,k2,rfl⟩
    have hk:k<ps.length:=ey (kl (mf _)) (ke k1);obtain ⟨m,hm⟩: ∃m,ps.length-k=m+1:=⟨ps.length-k-1,(tm (Nat.sub_pos_of_lt hk)).symm⟩
    (rewrite [hm,List.range'_succ] at k2;try with_reducible rfl)
    injection k2 with e1 e2
    subst e1 e2;refine (sL ho hd ?_);dsimp only;have hg:(aaN (LP ps)).getD x .none=.bytes ps[x].1 ps[x].2:=by
     (rewrite [vr];try with_reducible rfl)
     simp [LP,hk]
    (rewrite [hg];try with_reducible rfl)
    refine ach ?_ ?_
    ·(rewrite [Ha];try with_reducible rfl)
     refine ⟨rfl,q0.mpr λy hy=>?_⟩;refine ae λb8=>?_;obtain ⟨z,hz,rfl⟩:=dy.mp hy;obtain ⟨p,_,rfl⟩:=dy.mp hz;refine b8 ?_;exact hH
    refine (K9 (y7 ze ?_));refine (sL ho hd ?_);refine ach (by simp) (cp ?_);refine ⟨rfl,x+1,(sb x _).trans k1,congrArg (λn=>aaL (x+1) n) (congrArg Nat.pred hm.symm),?_⟩;have ht:ps.take (x+1)=ps.take x++[ps[x]]:=(List.take_append_getElem hk).symm
    (rewrite [ht];try with_reducible rfl)
    simp only [LP,th,oC,Hc,List.push_toArray]
   ·rintro b s' ⟨rfl,k,k1,k2,rfl⟩
    have hk:k=ps.length:=by simpa using k1
    (rewrite [hk,List.take_length];try with_reducible rfl)
    refine (Df (a:= #[]) rfl ?_);refine ach ?_ ?_
    ·have e:=su (ps.map (λU=>U.1)) 0
     (rewrite [OK,fb] at e;try with_reducible rfl)
     change decide (Array.foldl (λ(x:Nat) (y:Array UInt8)=>x+y.size) ((#[]:Array UInt8).size*_) _>abQ)=false
     (rewrite [List.foldl_toArray,show (#[]:Array UInt8).size=0 from rfl,Nat.zero_mul,e];try with_reducible rfl)
     (rewrite [decide_eq_false_iff_not];try with_reducible rfl)
     exact px.mpr h2
    refine bc (wpAny_mkBytes ?_ ?_)
    ·refine (K9 (y6 ?_));refine bc (qu ?_ _);refine cp ⟨_,rfl,?_⟩
     have:=h3 s'.toks (s'.toks+1)
     (rewrite [qt,OK];try with_reducible rfl)
     exact this
    ·(rewrite [qt,OK];try with_reducible rfl)
     simpa using h2
   ·refine ⟨rfl,0,?_,?_,rfl⟩
    ·(rewrite [List.length_range'];try with_reducible rfl)
     change 0+((aaN _).size-0+1-1)/1=_
     (rewrite [hn,NM,xn,Nat.div_one,fb];try with_reducible rfl)
    ·(rewrite [hn,NM];try with_reducible rfl);exact congrArg (λU=>aaL 0 U 1) (Nat.div_one _)
end MP
end Mine.Lake
end
section
namespace Mine.Lake
namespace MP
open PySem PySem.W PyProof.Rows
theorem SN(h:one? l=some a):l=[a]:=by
 induction l with
 |nil=>exact bw h
 |cons b r=>exact cN h λg h=>by induction r with
  |nil=>rcases h with _|_;rfl
  |cons=>exact bI g
section
variable{C:Cx}{z:Z C}{k:List Nat}{v:V}{x:Value}{Q E:Value->Shared->Prop}
theorem CI{k:Str}(hq: ∀h' a n,s.heap.get? a=none->Keeps s.heap h'->h'.get? a=some {cls:=.type "list",data:=.seq #[.str k t0] n}->Q (.ref a) {s with heap:=h'}):
  wpAny (abJ prog w) A (newList [.str k t0]>>=λl=>do let _ <-ab7 [l] (call (.builtin "list.sort") [l]);ret l) (λf s'=> ∃v,f=.done (.ret v)/\Q v s') E s:=by
 refine wpAny_bind (Kl<|wpAny_newList ?_);have XE:(s.heap.push (seqObj "list" [xk k t0].toArray 0)).get? s.heap.objs.size=some (seqObj "list" [xk k t0].toArray 0):=da _ rfl;refine (fm (wpAny_call_entry slot_list_sort ⟨_,XE,rfl⟩ entry_list_sort (Kl<|list_sort_treeK strKind_oneLt XE (λp hp=>?_) (λv1 v2 rest e=>by cases e) (show 1<64 by decide) λst' b1 b2=>⟨_,rfl,?_⟩) (args_list_sort _)))
 ·rw [pairsOf_toList] at hp;rw [dC.mp hp];exact ⟨_,rfl⟩
 ·have hst:(arrOf st').map (λU=>U.2)= #[xk k t0]:=by
   have hl2:(arrOf st').toList=[(xk k t0,xk k t0)]:=by
    have:=b1.toList
    rw [pairsOf_toList] at this;exact List.perm_singleton.mp this
   exact Array.ext' (by rw [Array.toList_map,hl2];rfl)
  rw [hst];have hne: ∀{b:Addr} {o:Obj},s.heap.get? b=some o->b≠s.heap.objs.size:=λ{b o} hb z=>vy _ (z▸ik hb);have g1:=get?_update_seq XE (λU=> #[]);have g2:=cn (seqObj "tuple" [xk k t0].toArray 0) g1;have g3:=cn (seqObj "list" #[] 0) g2;have g4:=get?_update_seq g3 (λU=> #[xk k t0]);refine wpAny_pure ⟨_,rfl,hq _ _ _ (aN _) (λb o hb=>?_) g4⟩;exact (wy _ _ _ _ (hne hb)).trans (cn _ (cn _ ((wy _ _ _ _ (hne hb)).trans (cn _ hb))))
theorem J2{y:Value}(h:ItemsOf (λi v=> ∃k0 x,[(strOf k,y)][i]?=some (k0,x)/\(ed PT C.w).is k0 v=true) acc [(strOf k,y)].length): ∃t0,acc= #[.str (strOf k) t0]:=by
 obtain ⟨a1,a2⟩:=h;obtain ⟨v0,rfl⟩:=Array.size_eq_one_iff.mp a1;obtain ⟨k0,x0,hk0,hk1⟩:=a2 0 v0 rfl;cases hk0;obtain ⟨t0,rfl⟩:=aab (show abt (strOf k) v0=true from hk1);exact ⟨t0,rfl⟩
theorem J3(hh:C.A.handled=none)(h:kh z [(k,v)] x)(N:kO z (.own (.list [.str k])) Q):wpAny C.M C.A (call (.builtin "sorted") [x]) Q E z.s:=by
 refine ae λaA=>?_;induction h with|@mk p hO hj=>
 obtain ⟨es,hes,hD⟩:=hO.dictOf;obtain ⟨ep,hat⟩:=hD.dictAt;obtain ⟨t1,y,r,rfl,_,hr⟩:=hes;refine aA ?_;rcases hr with _|_;have K:=kdl_dict (prog:=PT) (w:=C.w) (knd:=ed PT C.w) (kvs:=[(strOf k,y)]) (ep:=ep) (Io hj);refine call_function_entry kind_sorted plain_sorted entry_sorted (args_sorted1 _) ?_;unfold Builtin.«sorted»;refine wpAny_bind (m:=checkCount "sorted" 1 1 _) (wpAny_pure ?_);refine wpAny_bind (Kl<|kdu_collect (A:=C.A.in1) K hh hat (by show 1<=abQ;unfold abQ;decide) λh' tk acc hk hacc=>?_);obtain ⟨t0,e⟩:=J2 hacc;rw [e];exact CI (s:={z.s with heap:=h',toks:=tk}) λh2 a n n1 k2 e=>N.list (Keeps.trans hk k2) (Ej hk n1) e ⟨_,_,rfl,⟨t0,rfl⟩,rfl⟩ tk
end
section
variable{sc:abL}{x:Str}
theorem CJ(h:aV sc false e m)(he:Plain e)(hg:glob sc x=some (.bi 8))(np pos:Pos):aV sc false (.Call (.Name x np) [e] [] pos) (sV m):=
 pN rfl (.id _) hg h he λk z a v Q E w hr=>w.opt λr e w=>aQ e λl e1 e=>aQ e λp e2 e=>by
  cases SN e2;exact J3 (k.hh rfl) ((rd hr).d _ e1) (w.new.to e)
def signs:List Str:=[strOf [43],strOf [45],strOf [42],strOf [47],strOf [42,42]]
theorem sp1:(decide ((strOf fV).length<(strOf [32]).length)||decide (aag (strOf fV)<aag (strOf [32])))=false:=by decide+kernel
theorem sp2:((strOf [32]).length==0)=false:=by decide+kernel
theorem sp3:(QP (strOf fV) (strOf [32]) 0 (strOf fV).length ((strOf fV).length+1)).isEmpty=false:=by decide+kernel
theorem ZH:Builtin.Str.partsBetween (strOf fV) (QP (strOf fV) (strOf [32]) 0 (strOf fV).length ((strOf fV).length+1)) (strOf [32]).length=signs:=by decide+kernel
theorem sp5:(strOf fV).length<=abQ:=by decide+kernel
theorem FJ(hO:aV sc false o mo)(h0:jF o)(hs0:bP (sl s0) [32]=true)(c1:Nat)(c2 ap pos:Pos)(hl:bo ap.endLine pos.line=true):aV sc false (.Call (.Attribute o "split" ap) [.Constant (.str s0) c1 c2] [] pos) (xJ mo):=λk z Q E w=>
 wpAny_Call_method1_late (h0 _ _ _) (jH hl) (tS (λU U=>rfl) _ _) (one hO w λa z' x w U hr=>w.opt λr e w=>aQ e λs e1 e=>cN e λg e=>by
  have hx:=(rd hr).s _ e1;rw [dP g] at hx;obtain ⟨t,rfl⟩:=hx;obtain rfl:strOf [32]=s0:=by rw [<-dP hs0];exact b9 _
  refine ⟨"str","str.split",PySem.F.plainAttrs_str,Q1,PySem.F.type_str_split,aef _ _ _,(λb hb=>by cases hb),?_⟩;refine callWith_builtin rfl (evalArgs_plain (spliced_cons (Kl<|It (spliced_nil ?_))));refine Kl<|adS Q1 (aef _ _ _) PySem.F.entry_str_split (PySem.F.args_str_split_2 _ _) (meets_str_split_sep _ _ _ _ sp1 sp2 sp3 sp5 (by rw [ZH];unfold abQ;decide)) ?_;rw [ZH];exact (w.new.to e).DR ⟨_,_,rfl,⟨_,rfl⟩,_,_,rfl,⟨_,rfl⟩,_,_,rfl,⟨_,rfl⟩,_,_,rfl,⟨_,rfl⟩,_,_,rfl,⟨_,rfl⟩,rfl⟩ _)
theorem FL(hl:aB y l xs)(h:Du l=some b): ∃ps,xs=LP ps/\(ps.flatMap (λU=>U.1.toList)).map ki=b:=by
 induction l generalizing xs b with
 |nil=>cases hl;cases h;exact ⟨[],rfl,rfl⟩
 |cons v l ih=>
  obtain ⟨x,r,rfl,hv,hl⟩:=hl;refine aQ h λw e1 h=>aQ h λrb e2 h=>?_;rw [sj e1] at hv;obtain ⟨arr,t,rfl,e⟩:=hv;obtain ⟨ps,rfl,e3⟩:=ih hl e2;exact ⟨(arr,t)::ps,rfl,by rw [aaE,th,e,e3];exact ag h⟩
theorem J4(h:aV sc false a m)(he:Plain a)(c1:Nat)(c2 ap pos:Pos)(hl:bo ap.endLine pos.line=true):aV sc false (.Call (.Attribute (.Constant (.bytes []) c1 c2) "join" ap) [a] [] pos) (Dv m):=λk z Q E w=>by
 obtain ⟨I,A⟩:=z.tok (z.s.toks+1);refine wpAny_Call_method1_late rfl (jH hl) (tS he _ _) (λU U U U=>(?_:MethodOn PT k.C.w k.A "join" pos (.bytes #[] z.s.toks) [(false,eval a k.C.env)] Q E {z.s with toks:=z.s.toks+1}));refine ⟨"bytes","bytes.join",FB.plainAttrs_bytes,qp,zd,typeIs_bytes _ _ _,(λb hb=>by rcases hb with _|_),method1 ?_⟩;refine one (z:=⟨_,_,_,_,I⟩) h (w.mH A) λa z' x w U hr=>w.opt λr e w=>aQ e λl e1 e=>aQ e λb e2 e=>cN e λg e=>?_;have hx:=(rd hr).l _ e1;induction hx with|mk h1 h2=>
 obtain ⟨ps,e3,e4⟩:=FL h2 e2;have e5:(ps.flatMap (λU=>U.1.toList)).length=b.length:=by rw [<-e4,df]
 refine Kl<|adS qp (typeIs_bytes _ _ _) wO (zc _ _) (wQ _ _ ps) ⟨by rw [<-e3];exact h1,by rw [e5];exact bE g,λt k=>(w.new.to e).val (x:=.bytes _ t) ⟨_,t,rfl,e4⟩ k⟩
end
inductive qK(P:abK)(y:Wd)(h:Heap):List Addr->List R->List Value->Prop
 |nil:qK P y h [] [] []
 |val {fp v x rs xs}:az y v x->qK P y h fp rs xs->qK P y h fp (.val v::rs) (x::xs)
 |own {fp o p rs xs}:gy P y h o p->(∀b∈eO o.bk p,b∉fp)->qK P y h fp rs xs->qK P y h (eO o.bk p++fp) (.own o::rs) (.ref p.a::xs)
section
variable{P:abK}{y y':Wd}{h h':Heap}{fp:List Addr}{rs:List R}{xs:List Value}
theorem qK.free(r:qK P y h fp rs xs): ∀b∈fp,y.W b=none/\ ∃o,h.get? b=some o/\o.cls≠ .type "frame":=by
 induction r with
 |nil=>exact λb hb=>absurd hb eP
 |val _ _ ih=>exact ih
 |own w _ _ ih=>exact λb hb=>(w0.mp hb).elim (λhb=>⟨w.n b (cD.mp hb),w.o.pl (cD.mp hb)⟩) (ih b)
theorem qK.move(r:qK P y h fp rs xs)(u:Up y y')(k: ∀b∈fp,y'.W b=none/\Hk h h' b):qK P y' h' fp rs xs:=by
 induction r with
 |nil=>exact .nil
 |val hv _ ih=>exact .val (hv.mono u) (ih k)
 |own w d _ ih=>exact .own (w.keep u λa q=>k a (lh _ (cD.mpr q))) d (ih λb hb=>k b (mI _ hb))
theorem qK.app(r:qK P y h fp rs xs)(r2:qK P y h EH rs2 xs2)(d: ∀b∈fp,b∉EH):qK P y h (fp++EH) (rs++rs2) (xs++xs2):=by
 induction r with
 |nil=>exact r2
 |val hv _ ih=>exact .val hv (ih d)
 |own w d1 _ ih=>rw [eD];exact .own w (λb hb q=>(w0.mp q).elim (d1 b hb) (d b (lh _ hb))) (ih λb hb=>d b (mI _ hb))
theorem qK.rev(r:qK P y h fp rs xs): ∃fp',(∀b∈fp',b∈fp)/\qK P y h fp' rs.reverse xs.reverse:=by
 induction r with
 |nil=>exact ⟨[],λU h=>h,.nil⟩
 |val hv _ ih=>
  obtain ⟨fp',s,r⟩:=ih;rw [kb,kb];exact ⟨_,by rw [gn];exact s,r.app (.val hv .nil) λU U q=>eP q⟩
 |own w d _ ih=>
  obtain ⟨fp',s,r⟩:=ih;rw [kb,kb];refine ⟨_,λb hb=>?_,r.app (.own w (λU U q=>eP q) .nil) λb hb q=>?_⟩
  ·rw [gn] at hb;exact (w0.mp hb).elim (λhb=>mI _ (s b hb)) λhb=>lh _ hb
  ·rw [gn] at q;exact d b q (s b hb)
end
abbrev LQ(n:Nat):Rl (List R) (List Value):=λC z rs xs=>xs.length=n/\ ∃fp,qK C.P z.y z.s.heap fp rs xs
section
variable{sc:abL}
theorem Po.rel{rel mU:Rl α γ}{z:Z C}{out:Out α}{Q:γ->Shared->Prop}(w:Po b rel z out Q E)(h: ∀a (z':Z C) v,bY b z z'->mU C z' a v->rel C z' a v):Po b mU z out Q E:=⟨w.fits,λa z' v e A r=>w.ok a z' v e A (h a z' v A r),w.exc⟩
noncomputable def J5:R->Bool| .slot _=>false|_=>true
theorem CK{z:Z C}{rel:Rl α γ}{f:R->MP.Env->Hp->Out α}{Q:γ->Shared->Prop}{K:Shared->Prop}(hr:bK C z r v)(w:Po b rel z ((keepR r cf z.ρ z.H).bind f) Q E)(h: ∀r' (z':Z C),Po b rel z' (f r' z'.ρ z'.H) Q E->bY b z z'->bK C z' r' v->J5 r'=true->K z'.s):K z.s:=by
 induction r with
 |val y=>exact h (.val y) z w (bY.refl _ z) hr rfl
 |own o=>exact h (.own o) z w (bY.refl _ z) hr rfl
 |slot i=>
  change Po b rel z (((qM (.slot i) cf z.ρ z.H).bind λv ρ H=>.ok (.val v) ρ H).bind f) Q E at w;rw [bind_assoc] at w;exact jD (cf:=cf) hr (w.first (b1:=true) (dN:=mR) (K:=λv' s=>v'=v->K s) (λU=>rfl) λy z' u w A hv e=>h (.val y) z' w A (e▸hv) rfl) rfl
theorem J6{FP:List Addr}:lJ (λC z (rs:List R) (xs:List Value)=>xs.length=n/\ ∃fp,qK C.P z.y z.s.heap fp rs xs/\ ∀b∈FP,b∉fp):=λU U U U U U l h=>h.imp id λh=>h.imp λfp h=>⟨h.1.move l.up λb hb=>⟨l.n b (h.1.free b hb).1,λU e=>e⟩,h.2⟩
theorem J7(h:Each sc false es ms):Ref true (LQ es.length) sc false (λenv=>acd (ab1 pos (abU es env))) (mQ ms):=by
 induction h with
 |nil=>exact λk z Q E w=>spliced_nil (w.ok' rfl z (bY.refl _ z) ⟨rfl,[],.nil⟩)
 |cons h _ ih=>
  intro k z Q E w;show wpAny _ _ (acd (ab1 pos (abU _ _))) _ _ _;rw [h.1];refine spliced_cons (one h.2 w λa z1 x w U hr=>CK (K:=λs=>wpAny k.M k.A (acd _) (λxs s=>Q (x::xs) s) E s) hr w λr z2 w U hr hn=>?_);induction r with
  |slot i=>exact bI hn
  |val y=>exact ih k z2 _ _ (w.first (dN:=LQ _) (K:=λxs s=>Q (x::xs) s) (λU=>rfl) λrs z3 xs w A r=>w.ok' rfl z3 (bY.refl _ z3) ⟨congrArg (λU=>U+1) r.1,r.2.imp λfp r=>.val (az.mono A.toUp _ hr) r⟩)
  |own o=>
   obtain ⟨p,rfl,hO⟩:=hr;have hF: ∀b∈eO o.bk p,z2.y.W b=none:=λb hb=>hO.n b (cD.mp hb);have hl: ∀b∈eO o.bk p, ∃ob,z2.s.heap.get? b=some ob/\ob.cls≠ .type "frame":=λb hb=>hO.o.pl (cD.mp hb);refine Po.held w J6 hF hl (λrs z3 xs w A r Xg hk2=>w.ok' (v:=dT p.a::xs) rfl z3 (bY.refl _ z3) ⟨congrArg (λU=>U+1) r.1,r.2.elim λfp r=>⟨_,.own (hO.keep A.toUp λa q=>⟨Xg a (cD.mpr q),hk2 a (cD.mpr q)⟩) r.2 r.1⟩⟩) λI' l w'=>ih k (z2.re _ I') _ _ (w'.rel λrs z3 xs A r=>r.imp id λr=>r.imp λfp r=>⟨r,λb hb q=>?_⟩);obtain ⟨ob,e,_⟩:=hl b hb
   have:=A.h b ob ((Wd.oG hb).trans (by rw [e];rfl))
   rw [(r.free b q).1] at this;exact bw (this)
abbrev FN(sc:abL)(st:dq->Value->Sem Unit)(g:R->M Unit):Prop:= ∀(k:Kx sc false) (z:Z k.C) r v Q E,bK k.C z r v->Po false jU z (g r k.cf z.ρ z.H) (λU=>Q) E->wpAny k.M k.A (st k.C.env v) (λU=>Q) E z.s
theorem O5:lJ jU:=λU U U U U U U U=>trivial
theorem wR(h:cM (FN sc) sts gs){k:Kx sc false}{z:Z k.C}{Q:Shared->Prop}(hv:qK k.C.P z.y z.s.heap fp rs xs)(w:Po false jU z (rC gs rs k.cf z.ρ z.H) (λU=>Q) E):
  wpAny k.M k.A (acp (sts.map λst=>st k.C.env) xs) (λU=>Q) E z.s:=by
 induction h generalizing z fp rs xs with
 |nil=>induction hv with
  |nil=>exact Kl<|adx (w.unit z (Le.refl _))
  |_=>exact w.fits.elim
 |cons h _ ih=>
  have go: ∀{r x rs xs fp},qK k.C.P z.y z.s.heap fp rs xs->Po false jU z (aF (_:M Unit) (λU=>rC _ rs) k.cf z.ρ z.H) (λU=>Q) E->(∀I',bK k.C (z.re (z.y.hold z.s.heap fp) I') r x)->wpAny k.M k.A (acp (_::_) (x::xs)) (λU=>Q) E z.s:=λ{r x rs xs fp} hrs w hr=>
   wpAny_assignInOrder_more (Po.held w O5 (λb hb=>(hrs.free b hb).1) (λb hb=>(hrs.free b hb).2) (λU z' U w A U hF hk=>ih (hrs.move A.toUp λb hb=>⟨hF b hb,hk b hb⟩) w) λI' l w'=>h k (z.re _ I') r x _ _ (hr I') w')
  induction hv with
  |nil=>exact w.fits.elim
  |val a b=>exact go b w λI'=>(z.hold λq hq=>(b.free q hq).1).elim λU A=>az.mono A.toUp _ a
  |own a d b=>exact go b w λI'=>(z.hold λq hq=>(b.free q hq).1).elim λU A=>⟨_,rfl,a.keep A.toUp λq hq=>⟨(Wd.fq (d q (cD.mpr hq))).trans (a.n q hq),λU e=>e⟩⟩
end
end MP
end Mine.Lake
end
section
namespace Mine.Lake
namespace MP
open PySem PySem.W PyProof.Rows
section
variable{sc:abL}
theorem cM.map{P:α->β->Prop}{R:γ->δ->Prop}{f:α->γ}{g:β->δ}(k: ∀a b,P a b->R (f a) (g b)){as:List α}{bs:List β}(h:cM P as bs):cM R (as.map f) (bs.map g):=by
 induction h with
 |nil=>exact .nil
 |cons h _ ih=>exact .cons (k _ _ h) ih
theorem cM.app{P:α->β->Prop}{as cs:List α}{bs ds:List β}(h:cM P as bs)(h':cM P cs ds):cM P (as++cs) (bs++ds):=by
 induction h with
 |nil=>exact h'
 |cons h _ ih=>exact .cons h ih
theorem cM.rev{P:α->β->Prop}{as:List α}{bs:List β}(h:cM P as bs):cM P as.reverse bs.reverse:=by
 induction h with
 |nil=>exact .nil
 |cons h _ ih=>rw [kb,kb];exact ih.app (.cons h .nil)
theorem FO(h:kT sc ts gs):cM (FN sc) (ts.map λt env=>assign t env) gs:=by
 have:=h.map (R:=FN sc) (f:=λt env=>assign t env) (g:=id) λU U h=>h.2
 rwa [List.map_id] at this
theorem qv(h:kT sc ts gs)(env:dq):(ab9 ts env).map (λU=>U.2)=(ts.map λt env=>assign t env).map λst=>st env:=by
 induction h with
 |nil=>rfl
 |cons h _ ih=>rw [h.1];exact congrArg (λU=>_::U) ih
theorem FQ(h:iQ sc x=some i):FN sc (λenv v=>acW env x v) (aj i):=λk z r v Q E hr w=>by
 refine ae λaA=>?_;obtain ⟨kd,hk,ho⟩:=cV h;refine aA ?_;rw [<-k.hs] at hk;refine wpAny_bindName ?_;induction r with
 |val y=>exact oJ hk ho hr w
 |slot j=>exact lZ hr w λy z' w U hv=>oJ hk ho hv w
 |own o=>exact set_own hk ho hr w
theorem FE.cast(F:FE env sc)(h:sc=sc'):FE env sc':=h▸F
theorem iD(e:h1=h.push o)(k:eC h1.objs.size h1 h'):Keeps h h':=λb ob hb=>by
 subst e;refine k b ob (λe=>?_) (Keeps.push _ _ b ob hb)
 have:=ik hb
 rw [e,ip] at this;exact absurd this (px.mpr (tI _))
section
variable{ts vs:List bp}{gs:List (R->M Unit)}{ms:List (M R)}(ht:kT sc ts gs)(hv:Each sc false vs ms)(hlen:ts.length=vs.length)(Fw:eh vs.length 15=true)(x1 x2:Nat)(p q pos:Pos)
include hv Fw
theorem mu{k:Kx sc false}{z:Z k.C}{Q:fA->Shared->Prop}(w:Po false bz z ((mQ ms k.cf z.ρ z.H).bind f) Q E)(hs:acf [.Tuple ts x1 p] (.Tuple vs x2 q) k.C.env=pure sw)
  (hk: ∀fp rs xs (z':Z k.C) (s':Shared),xs.length=vs.length->qK k.C.P z'.y z'.s.heap fp rs xs->Po false bz z' (f rs z'.ρ z'.H) Q E->s'={z'.s with heap:=z'.s.heap.push {cls:=.type "tuple",data:=.seq xs.toArray}}->wpAny k.M k.A (ac7 k.C.env (.ref z'.s.heap.objs.size) sw ((ab9 [.Tuple ts x1 p] k.C.env).map (λU=>U.2))) Q E s'):wpAny k.M k.A (exec (.Assign [.Tuple ts x1 p] (.Tuple vs x2 q) pos) k.C.env) Q E z.s:=by
 rw [adE];refine (cX ?_);show wpAny k.M k.A (do let w <-eval (.Tuple vs x2 q) k.C.env;ac7 k.C.env w (<-acf [.Tuple ts x1 p] (.Tuple vs x2 q) k.C.env) ((ab9 [.Tuple ts x1 p] k.C.env).map (λU=>U.2))) _ _ _;rw [hs];refine wpAny_bind (wpAny_Tuple_spliced (one (J7 hv) w (λrs z' xs w U hr=>?_) λU=>rfl));refine ae λaA=>?_;obtain ⟨hl,fp,hr⟩:=hr;refine aA ?_;exact ⟨hl▸bt (aw Fw) (by unfold abQ;decide),hk fp rs xs z' _ hl hr w rfl⟩
include ht hlen
theorem zg(hN:kU (.Tuple ts x1 p) (.Tuple vs x2 q)):jV false sc false (.Assign [.Tuple ts x1 p] (.Tuple vs x2 q) pos) (fW gs ms):=λk z Q E w=>
 mu hv Fw x1 x2 p q pos w (hN _) λfp rs xs z' s' hl hr w e=>by
  subst e;have hT:(z'.s.heap.push {cls:=.type "tuple",data:=.seq xs.toArray}).IsTuple z'.s.heap.objs.size xs.toArray:=⟨_,da _ rfl,rfl,_,rfl⟩;change wpAny k.M k.A (assign (.Tuple ts x1 p) k.C.env (.ref z'.s.heap.objs.size)>>=λU=>(pure tx:Sem fA)) _ _ _;obtain ⟨l1,l2⟩:=jo ht k.C.env;refine wpAny_bind (wpAny_assign_Tuple (k.hh rfl) hT (by (rewrite [l1,hlen, <-hl];try with_reducible rfl);rfl) l2 λh' kk=>?_);obtain ⟨I,A⟩:=z'.iR (iD rfl kk) z'.s.toks
  (rewrite [qv ht];try with_reducible rfl)
  exact wR (z:=⟨_,_,_,_,I⟩) (FO ht) (hr.move (Up.refl _) λb hb=>⟨(hr.free b hb).1,iD rfl kk b⟩) ((w.mH A.lax).first (dN:=jU) (K:=λU s=>wpAny k.M k.A (pure tx) Q E s) (λh=>h) λU z' U w U U=>wpAny_pure w.next)
omit ht hlen in
theorem wU(hn:cM (λn i=>iQ sc n=some i) ns is)(hlen:ns.length=vs.length)(hN: ∀env,FE env sc->acf [.Tuple ts x1 p] (.Tuple vs x2 q) env=pure (some ns)):jV false sc false (.Assign [.Tuple ts x1 p] (.Tuple vs x2 q) pos) (bG (is.map aj) ms):=λk z Q E w=>
 mu hv Fw x1 x2 p q pos w (hN _ (k.fe.cast k.hs)) λfp rs xs z' s' hl hr w e=>by
  subst e;have hT:(z'.s.heap.push {cls:=.type "tuple",data:=.seq xs.toArray}).IsTuple z'.s.heap.objs.size xs.toArray:=⟨_,da _ rfl,rfl,_,rfl⟩;unfold ac7;refine (rq ?_);rw [show ns.length=xs.toArray.size from hlen.trans hl.symm];refine wpAny_bind (Kl<|adA (k.hh rfl) hT λh' kk=>?_);refine ae λaA=>?_;obtain ⟨I,A⟩:=z'.iR (iD rfl kk) z'.s.toks;obtain ⟨fp',s,hr'⟩:=hr.rev;refine aA ?_;have w:=w.mH (z':=⟨_,_,_,_,I⟩) A.lax;dsimp only at w;rw [rev_eq,rev_eq,gn,gn] at w;have e1:(ns.reverse.map λn=>acW k.C.env n)=(((ns.map λn env v=>acW env n v).reverse).map λst=>st k.C.env):=by rw [aaZ,aaZ,abB];rfl
  rw [e1];exact wpAny_bind (wR (z:=⟨_,_,_,_,I⟩) (hn.map (R:=FN sc) (f:=λn env v=>acW env n v) (g:=aj) λU U h=>FQ h).rev (hr'.move (Up.refl _) λb hb=>⟨(hr.free b (s b hb)).1,iD rfl kk b⟩) (w.first (dN:=jU) (K:=λU s=>wpAny k.M k.A (pure tx) Q E s) (λh=>h) λU z' U w U U=>wpAny_pure w.next))
end
end
end MP
end Mine.Lake
end
section
namespace Mine.Lake
namespace MP
open PySem PySem.W PyProof.Rows
theorem O6{α β:Type}{f:α->Option β}(l:List α):(l.filterMap f).length<=l.length:=List.length_filterMap_le f l
theorem CL{ts vs:List bp}:kU (.Tuple (.Attribute o a ap::ts) x1 p) (.Tuple vs x2 q):=λenv=>by
 unfold acf;dsimp only;split
 ·rfl
 ·split
  ·rfl
  ·(rewrite [if_pos];try with_reducible rfl)
   (rewrite [Y2];try with_reducible rfl)
   refine .inl (bne_iff_ne.mpr (ll ?_))
   (rewrite [wi];try with_reducible rfl)
   exact fo (O6 ts)
noncomputable def isStar:bp->Bool| .Starred .. =>true|_=>false
abbrev FT(sc:abL)(l:Nat)(t:bp)(n:Str):Prop:= ∃p i,t=.Name n p/\bo p.line l=true/\gu (sl n) sc.names=true/\iQ sc n=some i
theorem name_kind(F:FE env sc)(h1:gu (sl n) sc.names=true)(h2:iQ sc n=some i):env.kindOf n=some .local:=by
 obtain ⟨k,a,_⟩:=cV h2;cases wD F.once h1 a;obtain ⟨k',_,c,d⟩:=F.at a;cases (show k'=.local from c);exact d
theorem O7{ts vs:List bp}(h:cM (FT sc l) ts ns)(h1:(ts.length==2||ts.length==3)=true)(h2:vs.length=ts.length)(h3:vs.any isStar=false)(h4:ns.eraseDups.length=ns.length)(h5:vs.all (foldedForSure 8)=false)(h6:vs.all (constantsAlone 8)=false)(x1 x2:Nat)(p q:Pos)(F:FE env sc):acf [.Tuple ts x1 p] (.Tuple vs x2 q) env=pure (some ns):=by
 have hb:env.blockKind=.function:=by unfold Env.blockKind;rw [F.kind];rfl
 have hl:(ts.head?.map (λU=>U.pos.line)).getD 0=l:=by
  induction h with
  |nil=>exact bI h1
  |cons h _=>obtain ⟨p,i,rfl,e,_⟩:=h;exact cq e
 have hf: ∀{ts ns},cM (FT sc l) ts ns->(ts.filterMap fun
  | .Name id pos=>if (env.kindOf id==some .local&&pos.line==l)=true then some id else none
  |_=>none)=ns:=λh=>by
  induction h with
  |nil=>rfl
  |cons h _ ih=>
   obtain ⟨p,i,rfl,e,a,b⟩:=h;rw [wi];dsimp only;rw [name_kind F a b,cq e,if_pos (by rw [beq_self_eq_true,beq_self_eq_true];rfl),ih]
 have hn:ns.length=ts.length:=h.len.symm;unfold acf;dsimp only;rw [if_neg (by rw [h1,hb,h2,bne_self_eq_false,bne_self_eq_false];exact λh=>bI h),hl];refine (if_neg (show ¬(vs.any isStar)=true by rw [h3];exact λh=>bI h)).trans ?_;have hf:=hf h;generalize ts.filterMap _=l' at hf ⊢;subst hf;rw [if_neg (by rw [hn,h4,hn,bne_self_eq_false];exact λh=>bI h),if_neg (by rw [h5];exact λh=>bI h),if_neg (by rw [h6];exact λh=>bI h)]
noncomputable def p0:Pos:=⟨0,0,0,0⟩
abbrev dE:bp:=.Constant .ellipsis 0 p0
structure Vw where
 t:Nat
 p:Pos
 x:Str:=""
 a:bp:=dE
 b:bp:=dE
 c:bp:=dE
 l:List bp:=[]
 o:List (Option bp):=[]
 k:Nat:=0
 cst:Const:=.ellipsis
 kw:Bool:=true
 op:Operator:=.Add
 uo:UnaryOp:=.Invert
 cs:List CmpOp:=[]
 gs:List acq:=[]
 sc:abL:=⟨.module,[],false,false,[]⟩
 ar:acX:=⟨[],[],none,[],[],none,[]⟩
def view(e:bp):Vw:=bp.casesOn (motive_1:=λU=>Vw) e (λop l p=>{t:=BoolOp.casesOn op 7 8,p,l}) (λU U p=>{t:=50,p}) (λa op b p=>{t:=5,p,a,b,op}) (λuo a p=>{t:=6,p,a,uo}) (λar a sc p=>{t:=11,p,ar,a,sc}) (λa b c p=>{t:=9,p,a,b,c}) (λo l p=>{t:=4,p,o,l}) (λU U p=>{t:=51,p})
 (λa gs sc p=>{t:=10,p,a,gs,sc}) (λU U U p=>{t:=52,p}) (λU U U U p=>{t:=52,p}) (λU U U p=>{t:=50,p}) (λU p=>{t:=50,p}) (λU p=>{t:=50,p}) (λU p=>{t:=50,p}) (λa cs l p=>{t:=12,p,a,cs,l}) (λa l kw p=>{t:=13,p,a,l,kw:=kw.isEmpty}) (λU U U p=>{t:=50,p}) (λU p=>{t:=50,p})
 (λcst k p=>{t:=0,p,cst,k}) (λa x p=>{t:=14,p,a,x}) (λa b p=>{t:=15,p,a,b}) (λU p=>{t:=53,p}) (λx p=>{t:=1,p,x}) (λl p=>{t:=3,p,l}) (λl k p=>{t:=2,p,l,k}) (λa b c p=>{t:=16,p,o:=[a,b,c]})
def cg(k:Nat)(e:bp):Bool:=bo (view e).t k
section
variable{e:bp}
theorem bV(h:cg 53 e=false):Plain e:=by rcases e with _|_<;>first|exact λU U=>rfl|exact bI h.symm
theorem plainT_ok(h:cg 53 e=false):pO e:=by rcases e with _|_<;>first|exact λU U=>rfl|exact bI h.symm
theorem m9(h:cg 51 e=false):pS e:=by rcases e with _|_<;>first|exact λU U=>rfl|exact bI h.symm
theorem qw(h:cg 51 e=false)(op:CmpOp):acU op e=false:=by rcases e with _|_<;>first|exact bI h.symm|rfl|(rcases op with _|_<;>rfl)
theorem O8(h:cg 16 e=false):NT e:=by rcases e with _|_<;>first|exact λU U=>⟨_,rfl⟩|exact bI h.symm
theorem gh(h:cond (cg 13 e) (view e).l.isEmpty false=false):jF e:=by
 cases e with
 |Call f as kw p=>cases as with
  |nil=>exact bI h.symm
  |cons a as=>rcases f with _|_<;>exact λU U U=>rfl
 |_=>exact λU U U=>rfl
theorem sA(h:cond (cg 10 e) true (cg 52 e)=false):yo e:=λt l env=>by
 rcases e with _|_<;>first|rfl|exact bI h.symm
def ZI(e:bp):Bool:=cond (cg 6 e) false (cond (cg 7 e) false (cond (cg 8 e) false (cond (cg 9 e) false (cond (cg 12 e) false true))))
set_option tactic.hygienic true in
theorem SO(h:ZI e=true)(env:dq)(whole:Sem Value):acn e env whole=(do let v <-whole;ab8 e.pos;ab7 [v] (adg v)):=by
 rcases e with _|_<;>first|rfl|exact bI h|(rename_i op _ _;rcases op with _|_<;>exact bI h)
theorem AG(h:cond (cg 3 t) true (cond (cg 2 t) (cg 2 e) false)=false):kU t e:=λenv=>by
 cases t with
 |Tuple=>rcases e with _|_<;>first|rfl|exact bI h.symm
 |List=>exact bI h.symm
 |_=>rfl
set_option tactic.hygienic true in
theorem zh(h:cg 2 t=true):IsTup t:=by rcases t with _|_<;>first|exact bI h|exact ⟨_,_,_,rfl⟩|(rename_i op _ _;rcases op with _|_<;>exact bI h)
end
end MP
end Mine.Lake
end
section
namespace Mine.Lake
namespace MP
noncomputable def Res.O9:Res->mO
 | .ok r H=>.ok r H
 | .exc k w H=>.exc k w H
 |_=>.bad
def Out.int(q:Nat->CF){α:Type}(x:Out α):Out α:=Out.rec (motive:=λU=>Out α) .ok .exc .bad (λn k vs H U ih=>ih (q n k vs H).O9) x
def Res.int(q:Nat->CF)(x:Res):Res:=Res.rec (motive:=λU=>Res) .ok .exc .bad (λn k vs H U ih=>ih (q n k vs H).O9) x
def Hr(q:Nat->CF)(c1 c2:CF):Prop:= ∀k vs H,(c1 k vs H).int q=c2 k vs H
section
variable{q:Nat->CF}{α β:Type}
theorem FU{x:Out α}{e:Nat->V->Env->Hp->Out β}:(x.fold f e).int q=(x.int q).fold (λa ρ H=>(f a ρ H).int q) λk w ρ H=>(e k w ρ H).int q:=by
 induction x with
 |ask n k vs H f ih=>exact ih _
 |_=>rfl
theorem J8{x:Out α}:(x.res f e).int q=(x.int q).res (λa ρ H=>(f a ρ H).int q) λk w ρ H=>(e k w ρ H).int q:=by
 induction x with
 |ask n k vs H f ih=>exact ih _
 |_=>rfl
theorem zj:(gr x ρ).int q=gr (x.int q) ρ:=by
 induction x with
 |ask n k vs H f ih=>exact ih _
 |_=>rfl
structure Nq(q:Nat->CF)(x y:Out α):Prop where
 e:x.int q=y
structure Nr(q:Nat->CF)(x y:Res):Prop where
 e:x.int q=y
theorem fz:Nq q (.ok a ρ H) (.ok a ρ H):=⟨rfl⟩
theorem qx:Nq q (.bad:Out α) .bad:=⟨rfl⟩
theorem J9:Nq q (.exc k w ρ H:Out α) (.exc k w ρ H):=⟨rfl⟩
section
variable{x y:Out α}
theorem Nq.fold(h:Nq q x y){e e':Nat->V->Env->Hp->Out β}(g: ∀a ρ H,Nq q (f a ρ H) (f' a ρ H))(g': ∀k w ρ H,Nq q (e k w ρ H) (e' k w ρ H)):Nq q (x.fold f e) (y.fold f' e'):=by
 rw [<-h.e,show f'=λa ρ H=>(f a ρ H).int q from funext λa=>funext λρ=>funext λH=>(g a ρ H).e.symm,show e'=λk w ρ H=>(e k w ρ H).int q from funext λk=>funext λw=>funext λρ=>funext λH=>(g' k w ρ H).e.symm];exact ⟨FU⟩
theorem Nq.bind(h:Nq q x y){f f':α->Env->Hp->Out β}(g: ∀a ρ H,Nq q (f a ρ H) (f' a ρ H)):Nq q (x.bind f) (y.bind f'):=h.fold g λU U U U=>J9
theorem Nq.res(h:Nq q x y){e:Nat->V->Env->Hp->Res}(g: ∀a ρ H,(f a ρ H).int q=f a ρ H)(g': ∀k w ρ H,(e k w ρ H).int q=e k w ρ H):Nr q (x.res f e) (y.res f e):=by
 refine ⟨J8.trans ?_⟩;rw [h.e,show (λa ρ H=>(f a ρ H).int q)=f from funext λa=>funext λρ=>funext λH=>g a ρ H,show (λk w ρ H=>(e k w ρ H).int q)=e from funext λk=>funext λw=>funext λρ=>funext λH=>g' k w ρ H]
variable{x' y':Out α}{ι:Type}
theorem ng{f f':ι->Out α}(h: ∀i,Nq q (f i) (f' i)):Nq q (oB o f) (oB o f'):=by cases o with|none=>exact qx|some i=>exact h i
theorem FW{f f':ι->Out α}(h: ∀i,Nq q (f i) (f' i))(h':Nq q x y):Nq q (Hi o f x) (Hi o f' y):=by cases o with|none=>exact h'|some i=>exact h i
theorem gj(h:Nq q x y)(h':Nq q x' y'):Nq q (cond b x x') (cond b y y'):=by cases b;exact h';exact h
theorem dD(h:Nq q x y):Nq q (bZ b x) (bZ b y):=gj h qx
theorem SQ{x y:Res}(h:x.int q=y):Nq q (gr x ρ) (gr y ρ):=⟨h▸zj⟩
theorem SR{f f':ι->Res}(h: ∀i,Nr q (f i) (f' i)):Nr q (rB o f) (rB o f'):=by cases o with|none=>exact ⟨rfl⟩|some i=>exact h i
end
end
def Nt{α:Type}(m:M α):Prop:= ∀q c1 c2,Hr q c1 c2-> ∀ρ H,Nq q (m c1 ρ H) (m c2 ρ H)
def iE{α:Type}(l:List (M α)):Prop:= ∀m∈l,Nt m
def xr(t:T):Prop:= ∀r,Nt (t r)
section
variable{α β:Type}{m:M α}{l r:M R}
theorem cE:Nt (ee a):=λU U U U U U=>fz
theorem nh:Nt (cF:M α):=λU U U U U U=>qx
theorem aM{f:α->M β}(h:Nt m)(g: ∀a,Nt (f a)):Nt (aF m f):=λq c1 c2 hc ρ H=>(h q c1 c2 hc ρ H).bind λa ρ H=>g a q c1 c2 hc ρ H
theorem ni{f:D->Option β}(h:Nt l):Nt (xo f l):=aM h λU U U U U U U=>ng λU=>fz
theorem Ka{f:D->D->Option β}(h:Nt l)(h':Nt r):Nt (Vd f l r):=aM h λU=>aM h' λU U U U U U U=>ng λU=>fz
theorem ri(a:R):Nt (qM a):=λq U U U ρ H=>by
 cases a with
 |val v=>exact fz
 |own o=>exact gj fz fz
 |slot i=>
  show Nq q (HR i (bh ρ i) ρ H) (HR i (bh ρ i) ρ H);generalize bh ρ i=s;cases s with
  |own o=>exact gj qx fz
  |empty=>exact qx
  |_=>exact fz
theorem jx(h:Nt l):Nt (fE l):=aM h λU U U U U U U=>ng λU=>fz
theorem uF(h:Nt l):Nt (oY l):=aM h ri
theorem zk(i:Nat):Nt (aa i):=λq U U U ρ H=>by
 show Nq q (match bh ρ i with| .empty=>_| .val v=>_| .fix v=>_| .own _=>_) (match bh ρ i with| .empty=>_| .val v=>_| .fix v=>_| .own _=>_);generalize bh ρ i=s;cases s<;>first|exact fz|exact qx
theorem iF:iE ([]:List (M α)):=λU h=>nomatch h
theorem fB{l:List (M α)}(h:Nt m)(h':iE l):iE (m::l):=λx hx=>by
 rcases de.mp hx with rfl|hx
 ·exact h
 ·exact h' _ hx
theorem iE.h{l:List (M α)}(h:iE (m::l)):Nt m:=h _ bj
theorem iE.t{l:List (M α)}(h:iE (m::l)):iE l:=λx hx=>h x (cb _ hx)
theorem qy(h:iE es):Nt (ja es):=by
 induction es with
 |nil=>exact cE
 |cons e es ih=>exact aM (uF h.h) λU=>aM (ih h.t) λU=>cE
theorem SS(h:iE es):Nt (aD es):=aM (qy h) λU U U U U U U=>dD fz
theorem Pa(h:iE es):Nt (eList es):=aM (qy h) λU U U U U U U=>dD fz
theorem Kc(h:iE es):Nt (sO es):=aM (qy h) λU U U U U U U=>dD fz
theorem Pb(h:iE es):Nt (gJ ks es):=aM (qy h) λU U U U U U U=>fz
theorem nbytes(h:Nt l):Nt (ek l):=aM h λU U U U hc U U=>FW (λU=>SQ (hc _ _ _)) (ng λU=>fz)
theorem SV(hc:Hr q c1 c2){i j:Int}:Nq q (vh o i j c1 ρ H) (vh o i j c2 ρ H):=SQ (hc _ _ _)
theorem Kd(h:Nt l)(h':Nt r):Nt (aE op l r):=aM h λU=>aM h' λU U U U hc U U=>FW (λU=>FW (λU=>ng λU=>SV hc) (ng λU=>fz)) (ng λU=>fz)
theorem FY(hc:Hr q c1 c2):Nq q (sR op d e c1 ρ H) (sR op d e c2 ρ H):=FW (λU=>FW (λU=>ng λU=>(SV hc).bind λU U U=>ng λU=>fz) (ng λU=>fz)) (ng λU=>fz)
theorem Ke(h:Nt l)(h':Nt r):Nt (ay op l r):=aM h λU=>aM h' λU U U U hc U U=>FY hc
theorem Pc{m:M R}(h:Nt l)(h':Nt m)(h2:Nt r):Nt (o5 op op' l m r):=aM h λU=>aM h' λU q c1 c2 hc U U=>(FY hc).bind λU ρ H=>gj ((h2 q c1 c2 hc ρ H).bind λU U U=>FY hc) fz
theorem XF(h:Nt t):Nt (jb t):=aM h λU=>cE
theorem SW(h:iE ts):Nt (kE ts):=by
 induction ts with
 |nil=>exact cE
 |cons t ts ih=>exact aM h.h λU q c1 c2 hc ρ H=>gj (ih h.t q c1 c2 hc ρ H) fz
theorem nor(h:iE ts):Nt (Hj ts):=by
 induction ts with
 |nil=>exact cE
 |cons t ts ih=>exact aM h.h λU q c1 c2 hc ρ H=>gj fz (ih h.t q c1 c2 hc ρ H)
theorem SX(h:Nt t):Nt (bT t):=aM h λU=>cE
theorem SY(h:Nt m)(h':Nt m'):Nt (cond b m m'):=by cases b;exact h';exact h
theorem S0(h:iE es):Nt (o6 es):=by
 induction es with
 |nil=>exact nh
 |cons e es ih=>exact SY h.h (aM h.h λU q c1 c2 hc ρ H=>ng λU=>gj (ih h.t q c1 c2 hc ρ H) fz)
theorem XG(h:iE es):Nt (Qz es):=by
 induction es with
 |nil=>exact nh
 |cons e es ih=>exact SY h.h (aM h.h λU q c1 c2 hc ρ H=>ng λU=>gj fz (ih h.t q c1 c2 hc ρ H))
theorem XH(h:Nt t)(hl:Nt l)(hr:Nt r):Nt (iW t l r):=aM h λU q c1 c2 hc ρ H=>gj (hl q c1 c2 hc ρ H) (hr q c1 c2 hc ρ H)
theorem LR(h:iE es):Nt (ao k es):=aM (qy h) λU U U U hc U U=>SQ (hc _ _ _)
theorem Pd(h:iE es):Nt (kF i es):=aM (jx (zk i)) λU q c1 c2 hc ρ H=>ng λU=>(qy h q c1 c2 hc ρ H).bind λU U U=>SQ (hc _ _ _)
theorem S3(ho:Nt l)(h:iE es):Nt (rA k c l es):=aM (jx ho) λU q c1 c2 hc ρ H=>dD ((qy h q c1 c2 hc ρ H).bind λU U U=>SQ (hc _ _ _))
theorem S4(i:Nat):Nt (vj i):=λq U U U ρ H=>by
 unfold vj;generalize bh ρ i=s;cases s with
 |own o=>cases o<;>first|exact fz|exact qx
 |empty=>exact qx
 |_=>exact fz
theorem uG(l:List Nat):Nt (gE l):=by
 induction l with
 |nil=>exact cE
 |cons i l ih=>exact aM (S4 i) λU=>aM ih λU=>cE
theorem XI:Nt (xF k caps):=aM (uG caps) λU=>cE
theorem XJ{m lo hi:M R}(h:Nt m)(h1:Nt lo)(h2:Nt hi):Nt (HU m lo hi):=aM h λU=>aM (jx h1) λU=>aM (jx h2) λU U U U U U U=>ng λU=>fz
theorem S5(h:Nt l):Nt (vm l):=aM h λU U U U U U U=>ng λU=>dD fz
theorem CM:Nq q (kI a f ρ H) (kI a f ρ H):=ng λU=>ng λU=>fz
theorem FZ(h:Nq q x y):Nq q (vn x) (vn y):=h.bind λU U U=>fz
theorem F1(h:Nq q x y):Nq q (pe x) (pe y):=h.bind λU U U=>fz
theorem Kf(h:Nt l)(h':Nt r):Nt (bN l r):=aM h λU q c1 c2 hc ρ H=>dD ((uF h' q c1 c2 hc ρ H).bind λU U U=>FZ CM)
theorem Kg(h:Nt l)(h':Nt r):Nt (dh l r):=aM h λU q c1 c2 hc ρ H=>dD ((h' q c1 c2 hc ρ H).bind λU U U=>ng λU=>FZ CM)
theorem XK(h:Nt l):Nt (qQ l):=aM h λU U U U U U U=>FZ CM
theorem XM(h:Nt o)(h1:Nt k)(h2:Nt d):Nt (Dt o k d):=aM h λU q c1 c2 hc ρ H=>dD ((jx h1 q c1 c2 hc ρ H).bind λU ρ H=>(uF h2 q c1 c2 hc ρ H).bind λU U U=>ng λU=>fz)
theorem S6(h:Nt l):Nt (srcOf l):=aM (uF h) λU U U U U U U=>ng λU=>fz
theorem XN(h:Nt l)(h':Nt r):Nt (o9 l r):=aM (uF h) λU=>aM (uF h') λU U U U U U U=>ng λU=>ng λU=>fz
theorem S7(h:Nt l):Nt (lF l):=aM (uF h) λU U U U U U U=>ng λU=>fz
end
def wV(l:List T):Prop:= ∀t∈l,xr t
theorem mw:wV []:=λU h=>(eP h).elim
theorem fU(h:xr t)(h':wV l):wV (t::l):=λx hx=>by
 rcases de.mp hx with rfl|hx
 ·exact h
 ·exact h' _ hx
section
variable{m e:M R}
theorem S8(i:Nat)(x:Slot):Nt (Bt i x):=λU U U U U U=>gj qx fz
theorem jy(i:Nat):xr (aj i):=λr=>by cases r<;>first|exact S8 _ _|exact aM (ri _) λU=>S8 _ _
theorem Pe(h:wV ts): ∀l,Nt (zS ts l):=by
 induction ts with
 |nil=>exact λl U U U U U U=>dD fz
 |cons t ts ih=>exact λl=>by cases l with
  |nil=>exact nh
  |cons v l=>exact aM (h _ bj _) λU=>ih (λx hx=>h x (cb _ hx)) l
theorem F6(h:wV ts):xr (dX ts):=λU q c1 c2 hc ρ H=>ng λU=>dD (Pe h _ q c1 c2 hc ρ H)
theorem Pf(r:R):Nt (share r):=by
 cases r with
 |val v=>exact ri (.val v)
 |slot i=>exact ri (.slot i)
 |own o=>cases o with
  |list l=>exact λU U U U U U=>fz
  |dict l=>exact ri (.own (.dict l))
  |inst c l=>exact ri (.own (.inst c l))
  |jS l=>exact ri (.own (.jS l))
theorem S9(h:Nt m):xr (aO m k):=λU=>aM (Pf _) λU=>aM h λU U U U U U U=>F1 CM
theorem XO(h:Nt m)(h':Nt e):xr (nZ m e):=λU=>aM (ri _) λU=>aM h λU=>aM h' λU U U U U U U=>F1 CM
theorem Tc(h:Nt m)(h1:Nt lo)(h2:Nt hi):xr (xK m lo hi):=λU=>aM (ri _) λU=>aM h λU=>aM (jx h1) λU=>aM (jx h2) λU U U U U U U=>F1 CM
theorem oS(ht:xr t)(h:Nt e):Nt (af t e):=aM h λU=>aM (ht _) λU=>cE
theorem Td(r:R):Nt (keepR r):=by cases r<;>first|exact cE|exact aM (ri _) λU=>cE
theorem F8(h:iE es):Nt (mQ es):=by
 induction es with
 |nil=>exact cE
 |cons e es ih=>exact aM h.h λU=>aM (Td _) λU=>aM (ih h.t) λU=>cE
theorem AH(h:wV ts): ∀l,Nt (rC ts l):=by
 induction ts with
 |nil=>exact λl U U U U U U=>dD fz
 |cons t ts ih=>exact λl=>by cases l with
  |nil=>exact nh
  |cons v l=>exact aM (h _ bj _) λU=>ih (λx hx=>h x (cb _ hx)) l
theorem F9(ht:wV ts)(h:iE es):Nt (fW ts es):=aM (F8 h) λU=>aM (AH ht _) λU=>cE
theorem AI: ∀{l acc:List α},x∈rev l acc->x∈l\/x∈acc
 |[],_,h=>.inr h
 |a::l,acc,h=>(AI (l:=l) h).elim (λh=>.inl (cb _ h)) λh=>(de.mp h).elim (λe=>.inl (e▸bj)) .inr
theorem CN{is:List Nat}(h:iE es):Nt (bG (is.map aj) es):=aM (F8 h) λU=>aM (AH (λt ht=>(AI ht).elim (λh=>by obtain ⟨i,_,rfl⟩:=dy.mp h;exact jy i) λh=>(eP h).elim) _) λU=>cE
theorem Kh(h:Nt e):Nt (ah e):=aM h λU=>cE
theorem Te(h:Nt e):Nt (bJ e):=aM (jx h) λU U U U U U U=>dD fz
theorem iT{ss:List fF}(h:iE ss):Nt (br ss):=by
 induction ss with
 |nil=>exact cE
 |cons s ss ih=>exact aM h.h λf q c1 c2 hc ρ H=>by cases f<;>first|exact ih h.t q c1 c2 hc ρ H|exact fz
theorem nif{a b:List fF}(h:Nt t)(ha:iE a)(hb:iE b):Nt (b7 t a b):=aM h λU q c1 c2 hc ρ H=>gj (iT ha q c1 c2 hc ρ H) (iT hb q c1 c2 hc ρ H)
theorem LS(h:Nq q x y):Nq q (turn f x ρ H) (turn f y ρ H):=by cases f<;>first|exact h|exact fz
theorem AJ{b:fF}(h:Nt t)(hb:Nt b): ∀n,Nt (whileLoop n t b)
 |0=>nh
 |n+1=>aM h λU q c1 c2 hc ρ H=>gj ((hb q c1 c2 hc ρ H).bind λU ρ H=>LS (AJ h hb n q c1 c2 hc ρ H)) fz
theorem Pg{b:List fF}(h:Nt t)(hb:iE b):Nt (ic t b):=AJ h (iT hb) _
theorem LU(h:Nq q x y)(g: ∀v,Nq q (f v) (f' v)):Nq q (sY s k H x f) (sY s k H y f'):=ng λo=>by cases o<;>first|exact h|exact g _
theorem LV{b:fF}(h:xr t)(hb:Nt b): ∀n k,Nt (forLoop n k t s b)
 |0,_=>nh
 |n+1,k=>λq c1 c2 hc ρ H=>LU fz λv=>((h _ q c1 c2 hc ρ H).bind λU ρ H=>hb q c1 c2 hc ρ H).bind λU ρ H=>LS (LV h hb n (k+1) q c1 c2 hc ρ H)
theorem XQ{b:List fF}(h:xr t)(hs:Nt s)(hb:iE b):Nt (dY t s b):=aM hs λU=>LV h (iT hb) _ _
theorem Ph(h:Nt e):Nt (cQ k e):=aM (uF h) λU U U U U U U=>ng λU=>J9
theorem Pj{hand:List fF}(h:iE hand)(hc:Hr q c1 c2)(k:Nat)(w:V)(ρ:Env)(H:Hp):Nq q (xN ks nm hand k w c1 ρ H) (xN ks nm hand k w c2 ρ H):=dD (gj (by
 cases nm with
 |none=>exact (iT h q c1 c2 hc ρ H).fold (λU U U=>fz) λU U U U=>qx
 |some i=>exact (iT h q c1 c2 hc _ H).fold (λU U U=>dD fz) λU U U U=>qx) J9)
theorem Tf{b:List fF}{hand:List fF}(hb:iE b)(h:iE hand):Nt (sZ b ks nm hand):=λq c1 c2 hc ρ H=>(iT hb q c1 c2 hc ρ H).fold (λU U U=>fz) λk w ρ H=>Pj h hc k w ρ H
theorem Ga(h:iE ts):Nt (n7 ts):=by
 induction ts with
 |nil=>exact cE
 |cons t ts ih=>exact aM h.h λU q c1 c2 hc ρ H=>gj (ih h.t q c1 c2 hc ρ H) fz
theorem Gb(h:Nt e)(acc:List V):Nt (vp e acc):=aM (uF h) λU U U U U U U=>dD fz
theorem uH(h:xr t)(hc:Nt c)(he: ∀l,Nt (em l)): ∀n k l,Nt (compLoop n k t s c em l)
 |0,_,_=>nh
 |n+1,k,l=>λq c1 c2 hq ρ H=>LU fz λv=>((h _ q c1 c2 hq ρ H).bind λU ρ H=>hc q c1 c2 hq ρ H).bind λb ρ H=>Nq.bind (gj (he l q c1 c2 hq ρ H) fz) λl' ρ H=>uH h hc he n (k+1) l' q c1 c2 hq ρ H
theorem AK{vs:List V}{m:M (List V)}(h:Nt m):Nt (inside n caps vs m):=λq c1 c2 hc U H=>(h q c1 c2 hc _ H).fold (λU U U=>dD fz) λU U U U=>J9
theorem Tg{cs:List (M Bool)}(hs:Nt src)(ht:xr t)(hc:Nt (n7 cs))(he:Nt e):Nt (er n caps src t cs e):=aM hs λU=>aM (uG _) λU=>AK (uH ht hc (Gb he) _ _ _)
theorem Pk{cs QA:List (M Bool)}(hs:Nt src)(ht:xr t)(hc:Nt (n7 cs))(hs2:Nt MW)(Sq:xr t2)(hc2:Nt (n7 QA))(he:Nt e):Nt (xO n caps src t cs MW t2 QA e):=
 aM hs λU=>aM (uG _) λU=>AK (uH ht hc (λU=>aM hs2 λU=>uH Sq hc2 (Gb he) _ _ _) _ _ _)
end
section
variable{q:Nat->CF}
theorem nj{x:Option ι}{f:ι->Res}(h: ∀i,(f i).int q=f i):(rB x f).int q=rB x f:=by cases x with|none=>rfl|some i=>exact h i
theorem nfn(h:iE f.body)(hc:Hr q c1 c2)(vs:List V)(H:Hp):Nr q (iJ f c1 vs H) (iJ f c2 vs H):=by
 obtain ⟨kind,nc,ps,dflt,ns,body⟩:=f;cases kind with
 |plain=>exact SR λws=>(iT h q c1 c2 hc _ H).res (λf ρ H=>by cases f<;>first|rfl|exact nj λU=>rfl) λU U U U=>rfl
 |make c=>exact SR λp=>SR λws=>(iT h q c1 c2 hc _ H).res (λf ρ H=>by cases f<;>first|rfl|exact nj λU=>rfl) λU U U U=>rfl
 |heap c=>exact SR λp=>SR λws=>(iT h q c1 c2 hc _ _).res (λf ρ H=>by cases f<;>rfl) λU U U U=>rfl
end
end MP
end Mine.Lake
end
section
namespace Mine.Lake
namespace MP
open PySem PySem.W PyProof.Rows
section
variable{α ι:Type}
noncomputable def mz(bad:α)(b:Bool)(f:b=true->α):α:=Pm (motive:=λx=>(x=true->α)->α) (λU=>bad) (λf=>f rfl) b f
noncomputable def dI(bad:α)(b:Bool)(f:b=false->α):α:=Pm (motive:=λx=>(x=false->α)->α) (λf=>f rfl) (λU=>bad) b f
noncomputable def fJ(bad:α)(x:Option ι)(f: ∀i,x=some i->α):α:=XB (motive:=λy=>(∀i,y=some i->α)->α) (λU=>bad) (λi f=>f i rfl) x f
noncomputable def aH(d:α):List α->Nat->α
 |[],_=>d
 |a::r,n=>Nat.rec a (λm U=>aH d r m) n
end
structure Rd{α β:Type}(P:α->β->Prop)(N:β->Prop)where
 e:α
 m:β
 ok:P e m
 nt:N m
noncomputable abbrev mC(sc:abL)(hb:Bool):=Rd (aV sc hb) Nt
noncomputable abbrev XR(sc:abL)(hb:Bool):=Rd (kQ sc hb) Nt
noncomputable abbrev RdL(sc:abL)(hb:Bool):=Rd (Each sc hb) iE
noncomputable abbrev RdA(sc:abL)(hb:Bool):=Rd (cM (aV sc hb)) iE
noncomputable abbrev RdB(sc:abL)(hb:Bool):=Rd (cM (kQ sc hb)) iE
noncomputable abbrev Th(sc:abL)(b:Bool):=Rd (eH b sc) xr
noncomputable abbrev XS(sc:abL):=Rd (kT sc) wV
def lq{α β:Type}{P:α->M β->Prop}(f:α->Rd P Nt)(l:List α):Rd (cM P) iE:=l.rec ⟨[],[],.nil,iF⟩ λx U r=>⟨(f x).e::r.e,(f x).m::r.m,.cons (f x).ok r.ok,fB (f x).nt r.nt⟩
structure AL(sc:abL)where
 e:bp
 tp:Bool
 m:M Src
 ok:gG sc tp e m
 nt:Nt m
section
variable{sc:abL}{hb:Bool}
noncomputable def zl(e:bp):mC sc hb:=⟨e,cF,Ref.bad,nh⟩
noncomputable def Km(e:bp):XR sc hb:=⟨e,cF,Ref.bad,nh⟩
noncomputable def CO{b:Bool}(e:bp):Th sc b:=⟨e,λU=>cF,eH.bad,λU=>nh⟩
noncomputable def zm(e:bp):AL sc:=⟨e,false,cF,Ref.bad,nh⟩
def mJ(f:bp->mC sc hb)(l:List bp):RdL sc hb:=l.rec ⟨[],[],.nil,iF⟩ λx U r=>dI ⟨[],[],.nil,iF⟩ (cg 53 (f x).e) λh=>⟨(f x).e::r.e,(f x).m::r.m,.cons ⟨bV h,(f x).ok⟩ r.ok,fB (f x).nt r.nt⟩
def Gd(f:bp->Th sc false)(l:List bp):XS sc:=l.rec ⟨[],[],.nil,mw⟩ λx U r=>dI ⟨[],[],.nil,mw⟩ (cg 53 (f x).e) λh=>⟨(f x).e::r.e,(f x).m::r.m,.cons ⟨plainT_ok h,(f x).ok⟩ r.ok,fU (f x).nt r.nt⟩
end
def zo:Const->M R
 | .none=>bF
 | .bool b=>cu b
 | .int i=>ak i
 | .str s=>aq (sl s)
 | .bytes b=>gD (b.map ki)
 |_=>cF
theorem Ge(c:Const)(k:Nat)(pos:Pos):aV sc hb (.Constant c k pos) (zo c):=λK z Q E w=>by
 induction c with
 |none=>exact Kl<|wpAny_Constant_none (w.new.val (x:=.none) rfl z.s.toks)
 |bool b=>exact Kl<|wpAny_Constant_bool (w.new.val (x:=.bool b) rfl z.s.toks)
 |int i=>exact Kl<|adh (w.new.val ⟨_,rfl⟩ _)
 |str x=>exact Kl<|It (w.new.val ⟨_,by rw [b9]⟩ _)
 |bytes b=>exact λU U U U=>w.new.val (x:=.bytes b.toArray z.s.toks) ⟨_,_,rfl,rfl⟩ _
 |_=>exact w.fits.elim
theorem Pn(c:Const):Nt (zo c):=by rcases c with _|_<;>first|exact cE|exact nh
noncomputable def XT:GV->Option Nat| .fn k=>some k|_=>none
noncomputable def VC:GV->Option Nat| .bi k=>some k|_=>none
noncomputable def ZJ:GV->Option V| .val v=>some v|_=>none
section
variable{sc:abL}{x:Str}
theorem Ti(h:bb (glob sc x) XT=some k):glob sc x=some (.fn k):=aQ h λg e h=>by rcases g with _|_<;>first|(cases ag (h);exact e)|exact bw h
theorem sC(h:bb (glob sc x) VC=some k):glob sc x=some (.bi k):=aQ h λg e h=>by rcases g with _|_<;>first|(cases ag (h);exact e)|exact bw h
theorem Tj(h:bb (glob sc x) ZJ=some v):glob sc x=some (.val v):=aQ h λg e h=>by rcases g with _|_<;>first|(cases ag (h);exact e)|exact bw h
end
structure XU(sc:abL)where
 j:Nat
 f:M R->M R
 nt: ∀{m},Nt m->Nt (f m)
 ok: ∀{x e m},aV sc false e m->Plain e->glob sc x=some (.bi j)-> ∀np pos,aV sc false (.Call (.Name x np) [e] [] pos) (f m)
def XW(sc:abL):List (XU sc):=[⟨0,jc,ni,λh he hg np pos=>Jd h he np pos hg⟩,⟨1,lE,ni,λh he hg np pos=>Jc h he np pos hg⟩,⟨3,mP,ni,λh he hg np pos=>Jb h he np pos hg⟩,⟨4,kH,ni,λh he hg np pos=>Je h he np pos hg⟩,⟨5,ek,nbytes,λh he hg np pos=>BS np pos h he hg⟩,⟨6,vm,S5,λh he hg np pos=>JZ np pos h he hg⟩,⟨7,sS,ni,λh he hg np pos=>El h he np pos hg⟩,⟨8,sV,ni,λh he hg np pos=>CJ h he hg np pos⟩]
noncomputable def Gf(sc:abL)(j:Nat):List (XU sc)->Option (XU sc)
 |[]=>none
 |b::r=>cond (bo j b.j) (some b) (Gf sc j r)
section
variable{sc:abL}(bad:mC sc false)(re:bp->mC sc false)(x:Str)(np p:Pos)(as:List bp)
def Tn(j:Nat)(hg:glob sc x=some (.bi j))(a:bp):mC sc false:=
 fJ bad (Gf sc j (XW sc)) λb U=>mz bad (bo j b.j) λhj=>dI bad (cg 53 (re a).e) λhp=>⟨.Call (.Name x np) [(re a).e] [] p,b.f (re a).m,b.ok (re a).ok (bV hp) (by rw [<-cq hj];exact hg) np p,b.nt (re a).nt⟩
def To(hg:glob sc x=some (.bi 5))(a:bp):mC sc false:=
 fJ bad (aH none (view (view a).b).o 0) λlo U=>fJ bad (aH none (view (view a).b).o 1) λhi U=>⟨.Call (.Name x np) [.Subscript (re (view a).a).e (.Slice (some (re lo).e) (some (re hi).e) .none (view (view a).b).p) (view a).p] [] p,HU (re (view a).a).m (re lo).m (re hi).m,uD np (view (view a).b).p (view a).p p (re (view a).a).ok (re lo).ok (re hi).ok hg,XJ (re (view a).a).nt (re lo).nt (re hi).nt⟩
def Pp:mC sc false:=
 cond (iQ sc x).isSome (fJ bad (iQ sc x) λi h=>⟨.Call (.Name x np) (mJ re as).e [] p,kF i (mJ re as).m,Ez (mJ re as).ok np p h,Pd (mJ re as).nt⟩)<|
 cond (bb (glob sc x) XT).isSome (fJ bad (bb (glob sc x) XT) λk h=>⟨.Call (.Name x np) (mJ re as).e [] p,ao k (mJ re as).m,JA (mJ re as).ok np p (Ti h),LR (mJ re as).nt⟩)<|
 fJ bad (bb (glob sc x) VC) λj h=>
 cond (bo j 2) (mz bad (bo j 2) λhj=>dI bad (cg 53 (re (aH dE as 0)).e) λh1=>dI bad (cg 53 (re (aH dE as 1)).e) λh2=>⟨.Call (.Name x np) [(re (aH dE as 0)).e,(re (aH dE as 1)).e] [] p,Dp (re (aH dE as 0)).m (re (aH dE as 1)).m,Jf np p (re (aH dE as 0)).ok (re (aH dE as 1)).ok (bV h1) (bV h2) (by rw [<-cq hj];exact sC h),Ka (re (aH dE as 0)).nt (re (aH dE as 1)).nt⟩)<|
 cond (band (bo j 5) (band (cg 15 (aH dE as 0)) (aH none (view (view (aH dE as 0)).b).o 0).isSome)) (mz bad (bo j 5) λhj=>To bad re x np p (by rw [<-cq hj];exact sC h) (aH dE as 0))<|
 cond (bo as.length 1) (Tn bad re x np p j (sC h) (aH dE as 0)) bad
end
end MP
end Mine.Lake
end
section
namespace Mine.Lake
namespace MP
open PySem PySem.W PyProof.Rows
section
variable{sc:abL}{hb:Bool}
def VD(bad:mC sc hb)(f:mC sc false):mC sc hb:=Pm (motive:=λhb=>mC sc false->mC sc hb->mC sc hb) (λf U=>f) (λU bad=>bad) hb f bad
noncomputable def Tp:Const->Nat| .int i=>i.toNat|_=>0
noncomputable def Tt:Const->Str| .str s=>s|_=>""
section
variable(bad:mC sc hb)(re:bp->mC sc hb)(ap p:Pos)(as:List bp)
def Pq(x:List Nat)(o:bp)(h0:cond (cg 13 (re o).e) (view (re o).e).l.isEmpty false=false)(hl:bo ap.endLine p.line=true)(other:mC sc hb):mC sc hb:=
 let O:=re o
 let A:=re (aH dE as 0)
 cond (bP x (cs "append")) (dI bad (cg 53 A.e) λh=>⟨.Call (.Attribute O.e "append" ap) [A.e] [] p,bN O.m A.m,BW O.ok (gh h0) ap p hl A.ok (bV h),Kf O.nt A.nt⟩)<|
 cond (bP x (cs "extend")) (dI bad (cg 53 A.e) λh=>⟨.Call (.Attribute O.e "extend" ap) [A.e] [] p,dh O.m A.m,BX O.ok (gh h0) ap p hl A.ok (bV h),Kg O.nt A.nt⟩)<|
 cond (bP x (cs "pop")) ⟨.Call (.Attribute O.e "pop" ap) [] [] p,qQ O.m,N6 O.ok (gh h0) ap p hl,XK O.nt⟩<|
 cond (bP x (cs "get")) (dI bad (cg 53 A.e) λh=>dI bad (cg 53 (re (aH dE as 1)).e) λh2=>⟨.Call (.Attribute O.e "get" ap) [A.e,(re (aH dE as 1)).e] [] p,Dt O.m A.m (re (aH dE as 1)).m,N8 O.ok A.ok (re (aH dE as 1)).ok (gh h0) (bV h) (bV h2) ap p hl,XM O.nt A.nt (re (aH dE as 1)).nt⟩) other
def Tu(a i:bp):mC sc hb:=
 let V:=re a
 let w:=view i
 let st:=view (aaM (aH none w.o 2) dE)
 let h:=view (aaM (aH none w.o 1) dE)
 cond (cg 16 i) (cond (aby (aH none w.o 0)) bad<|cond (aby (aH none w.o 2)) ⟨.Subscript V.e (.Slice .none .none (some (.UnaryOp .USub (.Constant (.int 1) (view st.a).k (view st.a).p) st.p)) w.p) p,xG V.m,NW V.ok _ _ _ _ _,ni V.nt⟩
  <|cond (bo h.t 0) ⟨.Subscript V.e (.Slice .none (some (.Constant (.int (.ofNat (Tp h.cst))) h.k h.p)) .none w.p) p,o8 V.m (Tp h.cst),Ja V.ok _ _ _ _ _,ni V.nt⟩ bad)<|
 dI bad (cg 16 (re i).e) λq=>⟨.Subscript V.e (re i).e p,aK V.m (re i).m,I9 V.ok (re i).ok (O8 q) p,Ka V.nt (re i).nt⟩
end
noncomputable abbrev RdK:=Rd (cM AF) λU=>True
def Tv(l:List (Option bp)):RdK:=l.rec ⟨[],[],.nil,trivial⟩ λk U r=>let w:=view (k.getD dE);⟨some (.Constant (.str (Tt w.cst)) w.k w.p)::r.e,sl (Tt w.cst)::r.m,.cons ⟨_,_,_,rfl,rfl⟩ r.ok,trivial⟩
end
structure ZK(sc:abL)where
 e:bp
 m:M R
 ok:Option (PLift (ju sc e m/\Nt m))
structure VE where
 e: ∀sc hb,bp->mC sc hb
 t: ∀sc hb,bp->XR sc hb
 g: ∀sc b,bp->Th sc b
 s: ∀sc,bp->AL sc
abbrev dG:acq:=⟨dE,dE,[],0⟩
section
variable(r:VE)(sc:abL)
def Pr:ZK sc:=⟨dE,cF,none⟩
def XX{α:Type}(bad:α)(inner:abL)(g:acq)(f: ∀{caps},wz sc inner (r.g inner false g.target).e (r.s sc g.iter).e (lq (r.t inner false) g.ifs).e caps (r.s sc g.iter).tp (r.s sc g.iter).m (r.g inner false g.target).m (n7 (lq (r.t inner false) g.ifs).m)->α):α:=
 mz bad (vq inner) λh1=>mz bad (eZ inner.names) λh2=>fJ bad (fS sc 0 inner.names) λcaps h3=>dI bad (cg 51 (r.s sc g.iter).e) λh4=>mz bad (cond (r.s sc g.iter).tp (cg 2 (r.g inner false g.target).e) true) λh5=>
  f ⟨h1,h2,h3,(r.s sc g.iter).ok,m9 h4,λq=>zh (by rw [q] at h5;exact h5),(r.g inner false g.target).ok,wm (lq (r.t inner false) g.ifs).ok⟩
def Gg(elt:bp)(gs:List acq)(inner:abL)(p:Pos):ZK sc:=
 let g:=aH dG gs 0
 let g2:=aH dG gs 1
 let E:=r.e inner false elt
 XX r sc (Pr sc) inner g λ{caps} c1=>cond (bo gs.length 1) ⟨_,_,some ⟨E2 (pos:=p) c1 E.ok,Tg (r.s sc g.iter).nt (r.g inner false g.target).nt (Ga (lq (r.t inner false) g.ifs).nt) E.nt⟩⟩<|
  dI (Pr sc) (cg 51 (r.s inner g2.iter).e) λh4=>mz (Pr sc) (cond (r.s inner g2.iter).tp (cg 2 (r.g inner false g2.target).e) true) λh5=>
   ⟨_,_,some ⟨E3 (pos:=p) c1 E.ok (r.s inner g2.iter).ok (m9 h4) (r.g inner false g2.target).ok (wm (lq (r.t inner false) g2.ifs).ok) λq=>zh (by rw [q] at h5;exact h5),Pk (r.s sc g.iter).nt (r.g inner false g.target).nt (Ga (lq (r.t inner false) g.ifs).nt) (r.s inner g2.iter).nt (r.g inner false g2.target).nt (Ga (lq (r.t inner false) g2.ifs).nt) E.nt⟩⟩
end
end MP
end Mine.Lake
end
section
namespace Mine.Lake
namespace MP
open PySem PySem.W PyProof.Rows
noncomputable def j9:UnaryOp->Bool| .Not=>true|_=>false
section
variable(r:VE)(sc:abL)
def Kn(e:bp):mC sc false:=
 let bad:mC sc false:=zl e
 let w:=view e
 let f:=view w.a
 let re:=r.e sc false
 cond w.kw (cond (cg 1 w.a) (Pp bad re f.x f.p w.p w.l)<|
 mz bad (bo f.p.endLine w.p.line) λhl=>
 cond (bP (sl f.x) (cs "split")) (dI bad (cond (cg 13 (re f.a).e) (view (re f.a).e).l.isEmpty false) λh0=>⟨.Call (.Attribute (re f.a).e "split" f.p) [.Constant (.str " ") (view (aH dE w.l 0)).k (view (aH dE w.l 0)).p] [] w.p,xJ (re f.a).m,FJ (re f.a).ok (gh h0) rfl _ _ f.p w.p hl,ni (re f.a).nt⟩)<|
 cond (bP (sl f.x) (cs "join")) (dI bad (cg 53 (re (aH dE w.l 0)).e) λhp=>⟨.Call (.Attribute (.Constant (.bytes []) (view f.a).k (view f.a).p) "join" f.p) [(re (aH dE w.l 0)).e] [] w.p,Dv (re (aH dE w.l 0)).m,J4 (re (aH dE w.l 0)).ok (bV hp) _ _ f.p w.p hl,ni (re (aH dE w.l 0)).nt⟩)<|
 dI bad (cond (cg 13 (re f.a).e) (view (re f.a).e).l.isEmpty false) λh0=>
 Pq bad re f.p w.p w.l (sl f.x) f.a h0 hl<|fJ bad (bX (sl f.x) kg) λq hq=>mz bad (gp (mJ re w.l).e.length 30) λhn=>⟨.Call (.Attribute (re f.a).e f.x f.p) (mJ re w.l).e [] w.p,rA q.1 q.2 (re f.a).m (mJ re w.l).m,JB (mJ re w.l).ok w.p (re f.a).ok (gh h0) hq f.p hl hn,S3 (re f.a).nt (mJ re w.l).nt⟩) bad
noncomputable def nN:List Nat:=[101,102,103,104]
noncomputable abbrev XY(a:acX):acX:=⟨[],a.args,none,[],[],none,[]⟩
theorem Gh:nN.map cz=nN.map λk=>(cz k).map λq=>(XY q.1,q.2):=by kernel_rfl
theorem Tw(h:k∈nN)(e:cz k=some q):cz k=some (XY q.1,q.2.1,q.2.2):=by
 have:=ai Gh h
 rw [this,e];rfl
def Gi(p:Pos)(k:Nat):Bool:=aaK (cz k) false λq=>band (bo (view q.2.1).p.line p.line) (bo (view q.2.1).p.col p.col)
noncomputable def Pu(p:Pos):(l:List Nat)->Option Nat
 |[]=>none
 |k::r=>cond (Gi p k) (some k) (Pu p r)
theorem Ko(h:Pu p l=some k):k∈l:=by
 induction l with
 |nil=>exact bw h
 |cons a l ih=>
  change cond (Gi p a) _ _=_ at h;cases q:Gi p a with
  |true=>rw [q] at h;cases h;exact bj
  |false=>rw [q] at h;exact cb _ (ih h)
def Tz(e:bp):mC sc false:=
 let bad:mC sc false:=zl e
 let w:=view e
 fJ bad (Pu (view w.a).p nN) λk hk=>fJ bad (cz k) λq hq=>XB (motive:=λo=>eE sc q.2.2.names=o->mC sc false) (λU=>bad) (λcaps=>List.rec (motive:=λl=>eE sc q.2.2.names=some l->mC sc false) (λU=>bad) (λl0 l1 U hc=>⟨.Lambda (XY q.1) q.2.1 q.2.2 w.p,xF k (l0::l1),O0 (Tw (Ko hk) hq) hc w.p,XI⟩) caps) (eE sc q.2.2.names) rfl
noncomputable def TA:Operator->Op| .Add=>.add| .Sub=>.sub| .Mult=>.mul| .FloorDiv=>.fdiv| .Mod=>.mod|_=>.pow
def rdE(hb:Bool)(e:bp):mC sc hb:=
 let bad:mC sc hb:=zl e
 let w:=view e
 let re:=r.e sc hb
 let A:=re w.a
 let B:=re w.b
 cond (cg 1 e) (cond (iQ sc w.x).isSome (fJ bad (iQ sc w.x) λi h=>⟨.Name w.x w.p,aa i,DO h,zk i⟩) (fJ bad (bb (glob sc w.x) ZJ) λv h=>⟨.Name w.x w.p,cO v,IU (Tj h),cE⟩))<|
 cond (cg 0 e) ⟨.Constant w.cst w.k w.p,zo w.cst,Ge _ _ _,Pn _⟩<|
 cond (cg 14 e) (dI bad (cond (cg 13 A.e) (view A.e).l.isEmpty false) λh0=>fJ bad (idxOf (sl w.x) 0 bx) λk hk=>⟨.Attribute A.e w.x w.p,av A.m k,IY A.ok (gh h0) (Ae hk) w.p,ni A.nt⟩)<|
 cond (cg 15 e) (Tu bad re w.p w.a w.b)<|
 cond (cg 13 e) (VD bad (Kn r sc e))<|
 cond (cg 2 e) ⟨.Tuple (mJ re w.l).e w.k w.p,aD (mJ re w.l).m,Ni (mJ re w.l).ok w.k w.p,SS (mJ re w.l).nt⟩<|
 cond (cg 3 e) ⟨.List (mJ re w.l).e w.p,eList (mJ re w.l).m,Ir (mJ re w.l).ok w.p,Pa (mJ re w.l).nt⟩<|
 cond (cg 5 e) ⟨.BinOp A.e (MY (TA w.op)) B.e w.p,aE (TA w.op) A.m B.m,IF A.ok B.ok w.p,Kd A.nt B.nt⟩<|
 cond (cg 6 e) ⟨.UnaryOp .USub A.e w.p,sP A.m,IG A.ok w.p,ni A.nt⟩<|
 cond (cg 7 e) ⟨.BoolOp .And (lq re w.l).e w.p,o6 (lq re w.l).m,IC (lq re w.l).ok w.p,S0 (lq re w.l).nt⟩<|
 cond (cg 8 e) ⟨.BoolOp .Or (lq re w.l).e w.p,Qz (lq re w.l).m,Nm (lq re w.l).ok w.p,XG (lq re w.l).nt⟩<|
 cond (cg 9 e) ⟨.IfExp (r.t sc hb w.a).e B.e (re w.c).e w.p,iW (r.t sc hb w.a).m B.m (re w.c).m,Nk (r.t sc hb w.a).ok B.ok (re w.c).ok w.p,XH (r.t sc hb w.a).nt B.nt (re w.c).nt⟩<|
 cond (cg 12 e) (dI bad (cg 51 (re (aH dE w.l 0)).e) λh=>⟨.Compare A.e [aH .Eq w.cs 0] [(re (aH dE w.l 0)).e] w.p,bT (ay (jf (aH .Eq w.cs 0)) A.m (re (aH dE w.l 0)).m),Iv A.ok (re (aH dE w.l 0)).ok (qw h) w.p,SX (Ke A.nt (re (aH dE w.l 0)).nt)⟩)<|
 cond (cg 4 e) (VD bad (mz (zl e) (bo (mJ (r.e sc false) w.l).e.length (Tv w.o).m.length) λhl=>mz (zl e) (eh (Tv w.o).m.length 15) λFw=>⟨.Dict (Tv w.o).e (mJ (r.e sc false) w.l).e w.p,gJ (Tv w.o).m (mJ (r.e sc false) w.l).m,JX (Tv w.o).ok (mJ (r.e sc false) w.l).ok (cq hl) Fw,Pb (mJ (r.e sc false) w.l).nt⟩))<|
 cond (cg 10 e) (VD bad (XB (motive:=λU=>mC sc false) (zl e) (λh=>⟨_,_,h.down.1.ok,h.down.2⟩) (Gg r sc w.a w.gs w.sc w.p).ok))<|
 cond (cg 11 e) (VD bad (Tz sc e)) bad
def rdT(hb:Bool)(e:bp):XR sc hb:=
 let w:=view e
 let re:=r.e sc hb
 cond (band (cg 6 e) (j9 w.uo)) ⟨.UnaryOp .Not (r.t sc hb w.a).e w.p,jb (r.t sc hb w.a).m,Iw (r.t sc hb w.a).ok w.p,XF (r.t sc hb w.a).nt⟩<|
 cond (cg 7 e) ⟨.BoolOp .And (lq (r.t sc hb) w.l).e w.p,kE (lq (r.t sc hb) w.l).m,Iz (lq (r.t sc hb) w.l).ok w.p,SW (lq (r.t sc hb) w.l).nt⟩<|
 cond (cg 8 e) ⟨.BoolOp .Or (lq (r.t sc hb) w.l).e w.p,Hj (lq (r.t sc hb) w.l).m,Nj (lq (r.t sc hb) w.l).ok w.p,nor (lq (r.t sc hb) w.l).nt⟩<|
 cond (cg 12 e) (cond (bo w.l.length 1) (dI (Km e) (cg 51 (re (aH dE w.l 0)).e) λh=>⟨.Compare (re w.a).e [aH .Eq w.cs 0] [(re (aH dE w.l 0)).e] w.p,ay (jf (aH .Eq w.cs 0)) (re w.a).m (re (aH dE w.l 0)).m,Iu (re w.a).ok (re (aH dE w.l 0)).ok (qw h) w.p,Ke (re w.a).nt (re (aH dE w.l 0)).nt⟩)<|
  dI (Km e) (cg 51 (re (aH dE w.l 1)).e) λh=>⟨.Compare (re w.a).e [aH .Eq w.cs 0,aH .Eq w.cs 1] [(re (aH dE w.l 0)).e,(re (aH dE w.l 1)).e] w.p,o5 (jf (aH .Eq w.cs 0)) (jf (aH .Eq w.cs 1)) (re w.a).m (re (aH dE w.l 0)).m (re (aH dE w.l 1)).m,D4 (re w.a).ok (re (aH dE w.l 0)).ok (re (aH dE w.l 1)).ok (qw h) w.p,Pc (re w.a).nt (re (aH dE w.l 0)).nt (re (aH dE w.l 1)).nt⟩)<|
 mz (Km e) (ZI (re e).e) λh=>⟨(re e).e,eg (re e).m,IB (re e).ok (SO h),ni (re e).nt⟩
def rdG(b:Bool)(e:bp):Th sc b:=
 let w:=view e
 let re:=r.e sc false
 cond (cg 14 e) (fJ (CO e) (idxOf (sl w.x) 0 bx) λk hk=>⟨.Attribute (re w.a).e w.x w.p,aO (re w.a).m k,Ew (re w.a).ok (Ae hk) w.p,S9 (re w.a).nt⟩)<|
 Pm (motive:=λb=>Th sc b) (
  cond (cg 1 e) (fJ (CO e) (iQ sc w.x) λi h=>⟨.Name w.x w.p,aj i,Es h w.p,jy i⟩)<|
  cond (cg 2 e) ⟨.Tuple (Gd (r.g sc false) w.l).e w.k w.p,dX (Gd (r.g sc false) w.l).m,Jo (Gd (r.g sc false) w.l).ok w.k w.p,F6 (Gd (r.g sc false) w.l).nt⟩<|
  cond (cg 16 w.b) (fJ (CO e) (aH none (view w.b).o 0) λlo U=>fJ (CO e) (aH none (view w.b).o 1) λhi U=>⟨.Subscript (re w.a).e (.Slice (some (re lo).e) (some (re hi).e) .none (view w.b).p) w.p,xK (re w.a).m (re lo).m (re hi).m,J0 _ _ (re w.a).ok (re lo).ok (re hi).ok,Tc (re w.a).nt (re lo).nt (re hi).nt⟩)<|
  ⟨.Subscript (re w.a).e (re w.b).e w.p,nZ (re w.a).m (re w.b).m,Jq (re w.a).ok (re w.b).ok w.p,XO (re w.a).nt (re w.b).nt⟩) (CO e) b
def TF(e:bp):AL sc:=
 let w:=view e
 let re:=r.e sc false
 let x:=(view w.a).x
 let A:=re (aH dE w.l 0)
 let B:=re (aH dE w.l 1)
 let other:AL sc:=⟨(re e).e,false,srcOf (re e).m,EM (re e).ok,S6 (re e).nt⟩
 cond (band (cg 13 e) (band (cg 1 w.a) (cond (iQ sc x).isSome false (bb (glob sc x) VC).isSome))) (fJ (zm e) (bb (glob sc x) VC) λj h=>dI (zm e) (cg 53 A.e) λh1=>dI (zm e) (cg 53 B.e) λh2=>
  cond (bo j 9) (mz (zm e) (bo j 9) λhj=>have hg:glob sc x=some (.bi 9):=by rw [<-cq hj];exact sC h
   cond (bo w.l.length 1) ⟨.Call (.Name x (view w.a).p) [A.e] [] w.p,false,bU (ak 0) A.m,Cn A.ok (bV h1) hg _ w.p,Ka cE A.nt⟩ ⟨.Call (.Name x (view w.a).p) [A.e,B.e] [] w.p,false,bU A.m B.m,Co A.ok B.ok (bV h1) (bV h2) hg _ w.p,Ka A.nt B.nt⟩)<|
  cond (bo j 10) (mz (zm e) (bo j 10) λhj=>⟨.Call (.Name x (view w.a).p) [A.e,B.e] [] w.p,true,o9 A.m B.m,OD A.ok B.ok (bV h1) (bV h2) (by rw [<-cq hj];exact sC h) _ w.p,XN A.nt B.nt⟩)<|
  cond (bo j 11) (mz (zm e) (bo j 11) λhj=>⟨.Call (.Name x (view w.a).p) [A.e] [] w.p,true,lF A.m,JI A.ok (bV h1) (by rw [<-cq hj];exact sC h) _ w.p,S7 A.nt⟩) other) other
end
structure Vs where
 t:Nat
 p:Pos:=p0
 a:bp:=dE
 b:bp:=dE
 o:Option bp:=none
 ts:List bp:=[]
 l:List ec:=[]
 l2:List ec:=[]
 hs:List ExceptHandler:=[]
 nc:Bool:=true
noncomputable def wW(s:ec):Vs:=ec.casesOn (motive_2:=λU=>Vs) s (λU U U U U U U U U U=>{t:=50}) (λU U U U U U U U U U=>{t:=50}) (λU U U U U U U U U U U=>{t:=50}) (λo p=>{t:=0,o,p}) (λU U=>{t:=50}) (λts a p=>{t:=1,ts,a,p}) (λU U U U U U U=>{t:=50}) (λU U U U=>{t:=50}) (λU U U U U=>{t:=50})
 (λa b l U p=>{t:=4,a,b,l,p}) (λU U U U U=>{t:=50}) (λa l U p=>{t:=5,a,l,p}) (λa l l2 p=>{t:=3,a,l,l2,p}) (λU U U=>{t:=50}) (λU U U=>{t:=50}) (λU U U=>{t:=50}) (λo c p=>{t:=7,o,p,nc:=c.isNone}) (λl hs U U p=>{t:=8,l,hs,p}) (λU U U U U=>{t:=50})
 (λU U U=>{t:=50}) (λU U=>{t:=50}) (λU U U U=>{t:=50}) (λU U=>{t:=50}) (λU U=>{t:=50}) (λa p=>{t:=2,a,p}) (λU=>{t:=50}) (λU=>{t:=50}) (λp=>{t:=6,p})
noncomputable abbrev C2(b:Bool)(sc:abL)(hb:Bool):=Rd (jV b sc hb) Nt
noncomputable abbrev Pw(b:Bool)(sc:abL)(hb:Bool):=Rd (gU b sc hb) iE
noncomputable def cH{b sc hb}(s:ec):C2 b sc hb:=⟨s,cF,Ref.bad,nh⟩
noncomputable abbrev RdX(sc:abL):=Rd (cM (nH sc)) λU=>True
def VF(sc:abL)(l:List bp):RdX sc:=l.rec ⟨[],[],.nil,trivial⟩ λe U r=>let w:=view e;mz ⟨[],[],.nil,trivial⟩ (fG sc w.x) λh1=>fJ ⟨[],[],.nil,trivial⟩ (bX (sl w.x) gw) λk h2=>⟨.Name w.x w.p::r.e,k::r.m,.cons ⟨_,_,rfl,h1,h2⟩ r.ok,trivial⟩
noncomputable abbrev XZ(sc:abL):=Rd (JT sc) λU=>True
structure RdN(sc:abL)(l:Nat)where
 ts:List bp
 ns:List Str
 is:List Nat
 ok:cM (FT sc l) ts ns
 Vl:cM (λn i=>iQ sc n=some i) ns is
def rdN(sc:abL)(l:Nat)(es:List bp):RdN sc l:=es.rec ⟨[],[],[],.nil,.nil⟩ λe U r=>let w:=view e;mz ⟨[],[],[],.nil,.nil⟩ (bo w.p.line l) λh1=>mz ⟨[],[],[],.nil,.nil⟩ (gu (sl w.x) sc.names) λh2=>fJ ⟨[],[],[],.nil,.nil⟩ (iQ sc w.x) λi h3=>⟨.Name w.x w.p::r.ts,w.x::r.ns,i::r.is,.cons ⟨_,_,rfl,h1,h2,h3⟩ r.ok,.cons h3 r.Vl⟩
set_option tactic.hygienic true in
theorem Gj{ts vs:List bp}(h:cg 14 (aH dE ts 0)=true):kU (.Tuple ts x1 p) (.Tuple vs x2 q):=by
 induction ts with
 |nil=>exact bI h
 |cons t ts=>rcases t with _|_<;>first|exact CL|exact bI h|(rename_i op _ _;rcases op with _|_<;>exact bI h)
noncomputable def ehT:ExceptHandler->Option bp| .ExceptHandler t _ _ _=>t
noncomputable def ZL:ExceptHandler->Option Str| .ExceptHandler _ x _ _=>x
noncomputable def ehB:ExceptHandler->List ec| .ExceptHandler _ _ l _=>l
noncomputable def VG:ExceptHandler->Pos| .ExceptHandler _ _ _ p=>p
section
variable(hX: ∀P x k,bX (sl x) gw=some k->nF P k)(r:VE)(rs: ∀b sc hb,ec->C2 b sc hb)(sc:abL)
def X0(t:bp):Option (XZ sc):=
 let w:=view t
 cond (cg 2 t) (mz none (eh (VF sc w.l).m.length 15) λh=>some ⟨.Tuple (VF sc w.l).e w.k w.p,(VF sc w.l).m,JU (VF sc w.l).ok h w.k w.p,trivial⟩)<|
 mz none (fG sc w.x) λh1=>fJ none (bX (sl w.x) gw) λk h2=>some ⟨.Name w.x w.p,[k],nH.ok ⟨_,_,rfl,h1,h2⟩,trivial⟩
def CP(s:ec)(t v:bp)(pos:Pos):C2 false sc false:=
 let L:=mJ (r.e sc false) (view v).l
 let G:=Gd (r.g sc false) (view t).l
 let N:=rdN sc (view (aH dE (view t).l 0)).p.line (view t).l
 mz (cH s) (eh L.e.length 15) λFw=>
 cond (cg 14 (aH dE G.e 0)) (mz (cH s) (cg 14 (aH dE G.e 0)) λhN=>mz (cH s) (bo G.e.length L.e.length) λhl=>⟨.Assign [.Tuple G.e (view t).k (view t).p] (.Tuple L.e (view v).k (view v).p) pos,fW G.m L.m,zg G.ok L.ok (cq hl) Fw _ _ _ _ pos (Gj hN),F9 G.nt L.nt⟩)<|
 mz (cH s) (N.ts.length==2||N.ts.length==3) λh1=>mz (cH s) (bo L.e.length N.ts.length) λh2=>dI (cH s) (L.e.any isStar) λh3=>mz (cH s) (bo N.ns.eraseDups.length N.ns.length) λh4=>dI (cH s) (L.e.all (foldedForSure 8)) λh5=>dI (cH s) (L.e.all (constantsAlone 8)) λh6=>
  ⟨.Assign [.Tuple N.ts (view t).k (view t).p] (.Tuple L.e (view v).k (view v).p) pos,bG (N.is.map aj) L.m,wU L.ok Fw _ _ _ _ pos N.Vl (N.ok.len.symm.trans (cq h2).symm) λenv F=>O7 N.ok h1 (cq h2) h3 (cq h4) h5 h6 _ _ _ _ F,CN L.nt⟩
def wX(s:ec)(b:Bool)(t v:bp)(pos:Pos):C2 b sc false:=
 let G:=r.g sc b t
 let V:=r.e sc false v
 dI (cH s) (cg 53 G.e) λh0=>dI (cH s) (cond (cg 10 V.e) true (cg 52 V.e)) λh1=>dI (cH s) (cond (cg 3 G.e) true (cond (cg 2 G.e) (cg 2 V.e) false)) λh2=>⟨.Assign [G.e] V.e pos,af G.m V.m,B0 G.ok V.ok (plainT_ok h0) (sA h1) (AG h2) pos,oS G.nt V.nt⟩
def CQ(s:ec)(t v:bp)(pos:Pos):C2 false sc false:=
 let G:=r.g sc false t
 let w:=view v
 let V:=Gg r sc w.a w.gs w.sc w.p
 XB (motive:=λU=>C2 false sc false) (cH s) (λh=>dI (cH s) (cg 53 G.e) λh0=>dI (cH s) (cond (cg 3 G.e) true (cond (cg 2 G.e) (cg 2 V.e) false)) λh2=>⟨.Assign [G.e] V.e pos,af G.m V.m,h.down.1.assign G.ok (plainT_ok h0) (AG h2) pos,oS G.nt h.down.2⟩) V.ok
include hX
def X3(s:ec):C2 false sc false:=
 let w:=wW s
 let t:=aH dE w.ts 0
 cond (bo w.t 1) (cond (band (cg 2 t) (cg 2 w.a)) (CP r sc s t w.a w.p) (cond (cg 10 w.a) (CQ r sc s t w.a w.p) (wX r sc s false t w.a w.p)))<|
 cond (bo w.t 7) (let c:=view (w.o.getD dE)
  let f:=view c.a
  let A:=r.e sc false (aH dE c.l 0)
  cond (band w.nc (band c.kw (bo c.l.length 1))) (mz (cH s) (fG sc f.x) λh1=>fJ (cH s) (bX (sl f.x) gw) λk h2=>dI (cH s) (cg 53 A.e) λh3=>⟨.Raise (some (.Call (.Name f.x f.p) [A.e] [] c.p)) none w.p,cQ k A.m,Fe hX A.ok (bV h3) h1 h2 f.p c.p w.p,Ph A.nt⟩) (cH s))<|
 let h:=aH (.ExceptHandler none none [] p0) w.hs 0
 let B:=lq (rs false sc false) w.l
 let D:=lq (rs false sc true) (ehB h)
 fJ (cH s) (X0 sc ((ehT h).getD dE)) λX U=>cond (ZL h).isSome (fJ (cH s) (ZL h) λx U=>fJ (cH s) (iQ sc x) λi hi=>mz (cH s) (gu (sl x) sc.names) λhl=>⟨.Try B.e [.ExceptHandler (some X.e) (some x) D.e (VG h)] [] [] w.p,sZ B.m X.m (some i) D.m,CC B.ok D.ok X.ok (VG h) w.p hi hl,Tf B.nt D.nt⟩)
  ⟨.Try B.e [.ExceptHandler (some X.e) none D.e (VG h)] [] [] w.p,sZ B.m X.m .none D.m,OW B.ok D.ok X.ok (VG h) w.p,Tf B.nt D.nt⟩
def rdF(b:Bool)(s:ec):C2 b sc false:=
 let w:=wW s
 let B:=lq (rs b sc false) w.l
 let T:=r.t sc false w.a
 let G:=r.g sc b w.a
 let S:=r.s sc w.b
 cond (bo w.t 4) (dI (cH s) (cg 51 S.e) λh1=>mz (cH s) (cond S.tp (cg 2 G.e) true) λh2=>⟨.For G.e S.e B.e [] w.p,dY G.m S.m B.m,Oh G.ok S.ok B.ok (λq=>zh (by rw [q] at h2;exact h2)) (m9 h1) w.p,XQ G.nt S.nt B.nt⟩)<|
 cond (bo w.t 5) ⟨.While T.e B.e [] w.p,ic T.m B.m,Ex T.ok B.ok w.p,Pg T.nt B.nt⟩<|
 Pm (motive:=λb=>C2 b sc false) (X3 hX r rs sc s) (wX r sc s true (aH dE w.ts 0) w.a w.p) b
def rdS(b hb:Bool)(s:ec):C2 b sc hb:=
 let w:=wW s
 let E:=r.e sc hb w.a
 let T:=r.t sc hb w.a
 let B:=lq (rs b sc hb) w.l
 let O:=lq (rs b sc hb) w.l2
 cond (bo w.t 0) (cond w.o.isSome (cond (cg 3 (w.o.getD dE)) (let L:=mJ (r.e sc hb) (view (w.o.getD dE)).l;⟨.Return (some (.List L.e (view (w.o.getD dE)).p)) w.p,ah (sO L.m),rS (En L.ok _) w.p,Kh (Kc L.nt)⟩)
   ⟨.Return (some (r.e sc hb (w.o.getD dE)).e) w.p,ah (r.e sc hb (w.o.getD dE)).m,rS (r.e sc hb (w.o.getD dE)).ok w.p,Kh (r.e sc hb (w.o.getD dE)).nt⟩) ⟨.Return none w.p,ah bF,pQ w.p,Kh cE⟩)<|
 cond (bo w.t 2) (dI (cH s) (cond (cg 10 E.e) true (cg 52 E.e)) λh=>⟨.Expr E.e w.p,bJ E.m,Ju E.ok (sA h) w.p,Te E.nt⟩)<|
 cond (bo w.t 3) ⟨.If T.e B.e O.e w.p,b7 T.m B.m O.m,Sa T.ok B.ok O.ok w.p,nif T.nt B.nt O.nt⟩<|
 cond (bo w.t 6) ⟨.Continue w.p,Dy,Jt w.p,cE⟩<|
 Pm (motive:=λhb=>C2 b sc hb) (rdF hX r rs sc b s) (cH s) hb
end
noncomputable def QH:Nat->VE
 |0=>⟨λU U=>zl,λU U=>Km,λU U=>CO,λU=>zm⟩
 |n+1=>⟨λsc hb=>rdE (QH n) sc hb,λsc hb=>rdT (QH n) sc hb,λsc b=>rdG (QH n) sc b,λsc=>TF (QH n) sc⟩
noncomputable def Px(hX: ∀P x k,bX (sl x) gw=some k->nF P k):Nat-> ∀b sc hb,ec->C2 b sc hb
 |0=>λU U U=>cH
 |n+1=>λb sc hb=>rdS hX (QH n) (Px hX n) sc b hb
def Py(hX: ∀P x k,bX (sl x) gw=some k->nF P k)(b:Bool)(sc:abL)(body:List ec):Pw b sc false:=lq (Px hX 40 b sc false) body
noncomputable abbrev kY:=Addr×Stmt×List V
def starts:List kY:=[(303,Bh 31 0,[.none,vs "display",vs "trailing",.bool false,.bool false,.bool false]),(143,Bh 11 0,[]),(115,Bh 10 0,[.none,.tup [],.tup []]),(190,Bh 12 0,[]),(912,Bh 141 0,[]),(1037,Bh 159 0,[.bool false])]
def gk:kY:=(37,Bh 2 0,[.tup [.int 0,.int 0]])
def dc:List kY:=gk::(starts++rD)
def Gk(r:kY):List Arg:=(iX r.2.1).args
def C3(r:kY):List ec:=iY r.2.1
def uU(r:kY):abL:=lu r.2.1
noncomputable def VH(o:Option Obj):Array Value:=match o with|some ⟨_,_,.fields vs,_⟩=>vs|_=> #[]
noncomputable def TG:Value->Option Str| .str q _=>some q|_=>none
theorem Kp(h:TG x=some q): ∃t,x=.str q t:=by rcases x with _|_<;>first|(rcases h with _|_;exact ⟨_,rfl⟩)|exact bw h
def dfR(B:Look):Value->Option (List V)
 | .none=>some []
 | .ref a=>bb (NN (B a)) λxs=>IT (Vi B 4) xs
 |_=>none
section
variable(P:abK)(r:kY)
def uI:FuncData:=Zf (bq P r.1)
def X4:Option Obj:=bq P (mW (uI P r).code)
def TH:Str:=(uI P r).qualname++ei ".<locals>."++ei "<lambda>"
end
section
variable(P:abK)
theorem d1:dc.map (λr=>bq P r.1)=dc.map λr=>some (RO (bq P r.1)):=by kernel_rfl
theorem d2:dc.map (λr=>(uI P r).body)=dc.map λr=>.stmts (C3 r):=by kernel_rfl
theorem d3:dc.map (λr=>(uI P r).scope)=dc.map uU:=by kernel_rfl
theorem d4:dc.map (λr=>(uI P r).params)=dc.map λr=>⟨[],Gk r,none,[],[],none,(uI P r).params.defaults⟩:=by kernel_rfl
theorem d5:dc.map (λr=>((uI P r).globals,(uI P r).builtins,(uI P r).closure))=dc.map λU=>(abN,abW,[]):=by kernel_rfl
theorem d6:dc.map (λr=>(uI P r).code)=dc.map λr=>.ref (mW (uI P r).code):=by kernel_rfl
theorem d7:dc.map (λr=>(X4 P r).map (λU=>U.data))=dc.map λr=>some (.fields (VH (X4 P r))):=by kernel_rfl
theorem d8:dc.map (λr=>bb (VH (X4 P r))[1]? TG)=dc.map λr=>some (uI P r).qualname:=by kernel_rfl
theorem d9:dc.map (λr=>dfR (bq P) (uI P r).defaults)=dc.map λr=>some r.2.2:=by kernel_rfl
theorem d10:(dc.all λr=>cond (eZ (uU r).names) true (fX.any λq=>band (bo q.1 (mW (uI P r).code)) (bP (sl q.2.2) (sl (TH P r)))))=true:=by kernel_rfl
theorem d11:(dc.all λr=>pW (Gk r) (uU r))=true:=by kernel_rfl
variable{P}{r:kY}(hr:r∈dc){y:Wd}(hB: ∀a o,bq P a=some o->y.J a=some o)
include hr
theorem uJ:pW (Gk r) (uU r)=true:=fi.mp d11 _ hr
theorem Pz(h: ∃i n,aU (uU r).names i=some (n,oy)): ∃c A,(uI P r).code=.ref c/\(c,A,TH P r)∈fX:=by
 rcases vA (fi.mp (d10 P) _ hr) with ⟨q,_⟩|⟨_,q⟩
 ·obtain ⟨i,n,h⟩:=h;exact (dU q _ (dQ h) rfl).elim
 ·obtain ⟨x,hx,q⟩:=ph.mp q;obtain ⟨a,b⟩:=n9 q;exact ⟨_,x.2.1,ai (d6 P) hr,by rw [<-cq a, <-ig (dP b)];exact hx⟩
include hB
theorem Kq:jg y.J (uI P r).qualname (uI P r).code:=by
 rw [ai (d6 P) hr];refine ae λaA=>?_;obtain ⟨o,e,h⟩:=map_some (ai (d7 P) hr);refine aA ?_;refine aQ (ai (d8 P) hr) λx e1 e2=>?_;refine ae λb8=>?_;obtain ⟨t,rfl⟩:=Kp e2;refine b8 ?_;exact .mk (hB _ _ e) h e1
theorem Kr:An y (uI P r).defaults r.2.2:=by
 have h:=ai (d9 P) hr;generalize (uI P r).defaults=d at h ⊢;induction d with
 |none=>rw [<-ag h];exact .none
 |ref a=>
  refine aQ h λxs e h=>?_;cases Ac e with|mk a b c=>exact .seq (hB _ _ a) c (Ad (D8 hB 4) h)
 |_=>exact bw h
theorem AM:Oo y r.1 (Gk r) (C3 r) (uU r) r.2.2:=
 .mk (hB _ _ (ai (d1 P) hr)) rfl (ai (d2 P) hr) (ai (d3 P) hr) (ai (d4 P) hr) (congrArg (λU=>U.1) (ai (d5 P) hr)) (congrArg (λU=>U.2.1) (ai (d5 P) hr)) (congrArg (λU=>U.2.2) (ai (d5 P) hr)) (Kq hr hB) (Kr hr hB) (Pz hr)
end
section
variable(P:abK)
theorem x1:vt.map (λC=>(ab4 (cG P) (.ref C) "__setattr__",ab4 (cG P) (.ref C) "at",ab4 (cG P) (.ref C) "__init__"))=vt.map λU=>(some (some (.builtin "object.__setattr__")),some none,some (some (.ref 37))):=by kernel_rfl
def xS(i:Nat):Vs:=wW (xP (C3 gk) i)
def xC:Vw:=view (xS 0).a
def xT(i:Nat):Vw:=view (aH dE (xS i).ts 0)
theorem x2:qm (C3 gk):=⟨(view (view xC.a).a).p,(view xC.a).p,(view (aH dE xC.l 0)).p,(view (aH dE xC.l 1)).p,xC.p,(xS 0).p,(view (xT 1).a).p,(xT 1).p,(view (xS 1).a).p,(xS 1).p,(view (xT 2).a).p,(xT 2).p,(view (xS 2).a).p,(xS 2).p,by kernel_rfl,by kernel_rfl⟩
theorem x3:(Gk gk).map (λU=>U.arg)=(["self","what","at"]:List Str):=by kernel_rfl
theorem PB(k:Nat):nF P k:=by
 have h:=ai (x1 P) (tE k);exact .mk (i0:=0) (i1:=1) (i2:=2) (congrArg (λU=>U.1) h) (congrArg (λU=>U.2.1) h) (congrArg (λU=>U.2.2) h) (ai (d1 P) (x:=gk) bj) rfl (λy hB=>AM (r:=gk) bj hB) (uJ (r:=gk) bj) x3 x2 (by kernel_rfl) (by kernel_rfl) (by kernel_rfl) (by kernel_rfl)
end
end MP
end Mine.Lake
end
section
namespace Mine.Lake
namespace MP
def c0:Fn:=⟨.plain,0,[0,1],[],4,[b7 (ay .eq (jc (aa 0)) (ak 0)) [cQ 0 (aE .add (aq [97,110,32,117,110,107,110,111,119,110,32,110,97,109,101,58,32]) (aa 1))] [],
  (b7 (ay .gt (jc (aa 0)) (ak 1)) [cQ 0 (aE .add (aq [97,110,32,97,109,98,105,103,117,111,117,115,32,110,97,109,101,58,32]) (aa 1))] []),
  (ah (aK (aa 0) (ak 0)))]⟩
def c1:Fn:=⟨.plain,0,[0,1,2],[],6,[af (aj 3) (er 3 [(2,1)] (srcOf (ao 4 [aa 0])) (aj 1) [ay .eq (av (aa 1) 1) (aa 2)] (aa 1)),
  (ah (ao 0 [er 7 [(5,0),(6,2)] (srcOf (aa 3)) (aj 1) [eg (ao 12 [aE .add (ao 7 [aa 1]) (eList [ao 11 [aa 5,aa 1]]),aa 6])] (aa 1),aa 1]))]⟩
def c2:Fn:=⟨.plain,0,[0],[],3,[af (aj 1) (eList []),
  (dY (aj 2) (srcOf (av (aa 0) 2)) [bJ (dh (aa 1) (aK (av (aa 0) 2) (aa 2)))]),
  (ah (aE .add (aE .add (aa 1) (av (aa 0) 4)) (av (aa 0) 3)))]⟩
def c3:Fn:=⟨.plain,0,[0],[],4,[af (aj 1) (eList []),
  (af (aj 2) (eList [aa 0])),
  (ic (ay .ne (aa 2) (eList [])) [af (aj 3) (qQ (aa 2)),bJ (bN (aa 1) (aa 3)),bJ (dh (aa 2) (xG (av (aa 3) 5)))]),
  (ah (aa 1))]⟩
def c4:Fn:=⟨.plain,0,[0],[],5,[af (aj 1) (eList []),
  (dY (aj 2) (srcOf (ao 2 [aa 0])) [bJ (dh (aa 1) (ao 3 [aa 2]))]),
  (ah (aa 1))]⟩
def c5:Fn:=⟨.plain,0,[0],[],3,[af (aj 1) (eList []),
  (af (aj 2) (av (aa 0) 6)),
  (ic (ay .j9 (aa 2) bF) [bJ (bN (aa 1) (aa 2)),af (aj 2) (av (aa 2) 6)]),
  (ah (aa 1))]⟩
def c6:Fn:=⟨.plain,0,[0],[],3,[af (aj 1) (ao 5 [aa 0]),
  (ah (iW (ay .ne (aa 1) (eList [])) (aK (aa 1) (sP (ak 1))) (aa 0)))]⟩
def c7:Fn:=⟨.plain,0,[0],[],2,[ah (er 3 [] (srcOf (ao 5 [aa 0])) (aj 1) [ay .ne (av (aa 1) 1) (cO (.str [70,73,76,76,69,82]))] (av (aa 1) 1))]⟩
def c8:Fn:=⟨.plain,0,[0],[],3,[af (aj 1) (aE .add (xG (ao 5 [aa 0])) (eList [aa 0])),
  (ah (er 2 [] (srcOf (aa 1)) (aj 1) [ay .j9 (av (aa 1) 7) bF] (aa 1)))]⟩
def c9:Fn:=⟨.plain,0,[0],[],1,[ah (bT (ay .ne (er 3 [] (srcOf (av (aa 0) 5)) (aj 1) [ay .ne (av (aa 1) 8) (cO (.int 66))] (aa 1)) (eList [])))]⟩
def c10:Fn:=⟨.plain,0,[0],[],1,[ah (er 3 [] (srcOf (av (aa 0) 5)) (aj 1) [ay .ne (av (aa 1) 8) (cO (.int 66))] (aa 1))]⟩
def c11:Fn:=⟨.plain,0,[0,1],[],5,[af (aj 2) (ao 6 [aa 1]),
  (dY (aj 3) (srcOf (av (aa 0) 2)) [b7 (ay .ne (er 3 [(2,2)] (srcOf (aK (av (aa 0) 2) (aa 3))) (aj 1) [ay .is (aa 1) (aa 2)] (aa 1)) (eList [])) [ah (aa 3)] []]),
  (ah (aq []))]⟩
def c12:Fn:=⟨.plain,0,[0,1],[],5,[af (aj 2) (ak 0),
  (dY (aj 3) (srcOf (aa 0)) [b7 (kE [ay .lt (aa 2) (jc (aa 1)),ay .eq (aa 3) (aK (aa 1) (aa 2))]) [af (aj 2) (aE .add (aa 2) (ak 1))] []]),
  (ah (bT (ay .eq (aa 2) (jc (aa 1)))))]⟩
def c13:Fn:=⟨.plain,0,[0,1,2],[],13,[af (aj 3) (ao 8 [aa 0]),
  (b7 (ay .ne (jc (aa 1)) (jc (aa 3))) [cQ 1 (aE .add (aq [97,110,111,116,104,101,114,32,110,117,109,98,101,114,32,111,102,32,115,117,98,115,99,114,105,112,116,115,32,116,104,97,110,32,116,97,98,108,101,115,58,32]) (av (aa 0) 1))] []),
  (af (aj 4) (av (aa 0) 9)),
  (dY (dX [aj 5,aj 6]) (o9 (aa 3) (aa 1)) [b7 (jb (o5 .le .le (ak 1) (aa 6) (av (av (aa 5) 7) 11))) [cQ 1 (aE .add (aq [97,32,115,117,98,115,99,114,105,112,116,32,98,101,121,111,110,100,32,105,116,115,32,116,97,98,108,101,58,32]) (av (aa 0) 1))] [],af (aj 4) (aE .add (aa 4) (aE .mul (aE .sub (aa 6) (ak 1)) (av (aa 5) 10)))]),
  (b7 (ay .is (aa 2) bF) [ah (aD [aa 4,av (aa 0) 10])] []),
  (af (dX [aj 7,aj 8]) (aa 2)),
  (b7 (ay .is (aa 8) bF) [af (aj 8) (aE .add (aE .sub (av (aa 0) 10) (aa 7)) (ak 1))] []),
  (b7 (Hj [ay .lt (aa 7) (ak 1),ay .lt (aa 8) (ak 1),ay .gt (aE .sub (aE .add (aa 7) (aa 8)) (ak 1)) (av (aa 0) 10)]) [cQ 1 (aE .add (aq [97,32,112,97,114,116,32,98,101,121,111,110,100,32,105,116,115,32,105,116,101,109,58,32]) (av (aa 0) 1))] []),
  (ah (aD [aE .sub (aE .add (aa 4) (aa 7)) (ak 1),aa 8]))]⟩
def c14:Fn:=⟨.plain,0,[0],[],1,[ah (bT (ay .eq (av (aa 0) 12) (aq [110,117,109,101,114,105,99])))]⟩
def c15:Fn:=⟨.plain,0,[0],[],1,[ah (bT (ay .isIn (av (aa 0) 12) (aD [aq [110,117,109,101,114,105,99],aq [105,110,100,101,120]])))]⟩
def c16:Fn:=⟨.plain,0,[0],[],1,[ah (aE .pow (ak 10) (av (aa 0) 13))]⟩
def c17:Fn:=⟨.plain,0,[0],[],2,[ah (ao 95 [aq [103,114,111,117,112],aa 0])]⟩
def c18:Fn:=⟨.plain,0,[0],[],3,[ah (ao 95 [aq [97,108,112,104,97,110,117,109,101,114,105,99],jc (aa 0)])]⟩
def c19:Fn:=⟨.plain,0,[0,1,2,3,4,5],[],8,[af (aj 6) (ao 95 [aa 0,aa 1,bF,aa 2]),
  (af (aO (aa 6) 13) (aa 3)),
  (af (aO (aa 6) 14) (aa 4)),
  (af (aO (aa 6) 15) (aa 5)),
  (ah (aa 6))]⟩
def c20:Fn:=⟨.plain,0,[0],[],3,[bG [aj 1,aj 2] [ak 1,aE .fdiv (aa 0) (ak 10)],
  (ic (ay .gt (aa 2) (ak 0)) [af (aj 1) (aE .add (aa 1) (ak 1)),af (aj 2) (aE .fdiv (aa 2) (ak 10))]),
  (ah (aa 1))]⟩
def c21:Fn:=⟨.plain,0,[0],[],8,[af (dX [aj 1,aj 2]) (aa 0),
  (af (aj 3) (Dp (ao 20 [lE (aa 1)]) (aa 2))),
  (ah (ao 19 [aq [110,117,109,101,114,105,99],aa 3,aq [100,105,115,112,108,97,121],aa 3,aa 2,bT (ay .lt (aa 1) (ak 0))]))]⟩
def c22:Fn:=⟨.plain,0,[],[],3,[ah (ao 19 [aq [105,110,100,101,120],cO (.int 4),aq [105,110,100,101,120],cO (.int 9),ak 0,cu true])]⟩
def c23:Fn:=⟨.plain,0,[0,1],[],4,[sZ [ah (ao 1 [aa 0,aK (aa 1) (ak 1),aK (aa 1) (ak 2)])] [0] .none [ah bF]]⟩
def c24:Fn:=⟨.plain,0,[0,1],[],2,[ah (o6 [bT (ay .eq (aK (aa 1) (ak 0)) (aq [114,101,102])),bT (ay .eq (aK (aa 1) (ak 2)) (aD [])),bT (ay .isIn (aK (aa 1) (ak 1)) (av (aa 0) 16))])]⟩
def c25:Fn:=⟨.plain,0,[0,1],[],5,[af (aj 2) (eList []),
  (dY (aj 3) (srcOf (aK (aa 1) (ak 3))) [bJ (dh (aa 2) (ao 32 [aa 0,aa 3]))]),
  (dY (aj 3) (srcOf (iW (ay .j9 (aK (aa 1) (ak 4)) bF) (aK (aa 1) (ak 4)) (aD []))) [b7 (ay .j9 (aa 3) bF) [bJ (dh (aa 2) (ao 32 [aa 0,aa 3]))] []]),
  (ah (aa 2))]⟩
def c26:Fn:=⟨.plain,0,[0,1],[],10,[af (aj 2) (ao 25 [aa 0,aa 1]),
  (sZ [af (aj 3) (ao 1 [aa 0,aK (aa 1) (ak 1),aK (aa 1) (ak 2)])] [0] (some 4) [ah (aE .add (eList [aD [av (aa 4) 0,aK (aa 1) (ak 1)]]) (aa 2))]),
  (b7 (ay .ne (jc (aK (aa 1) (ak 3))) (jc (ao 8 [aa 3]))) [bJ (bN (aa 2) (aD [aq [97,110,111,116,104,101,114,32,110,117,109,98,101,114,32,111,102,32,115,117,98,115,99,114,105,112,116,115],aK (aa 1) (ak 1)]))] []),
  (ah (aa 2))]⟩
def c27:Fn:=⟨.plain,0,[0,1],[],6,[b7 (jb (eg (ao 24 [aa 0,aa 1]))) [ah (ao 26 [aa 0,aa 1])] [],
  (af (aj 2) (ao 25 [aa 0,aa 1])),
  (ah (iW (kE [ay .eq (aK (aa 1) (ak 3)) (aD []),ay .is (aK (aa 1) (ak 4)) bF]) (aa 2) (aE .add (aa 2) (eList [aD [aq [97,110,32,105,110,100,101,120,32,119,105,116,104,32,115,117,98,115,99,114,105,112,116,115],aK (aa 1) (ak 1)]]))))]⟩
def c28:Fn:=⟨.plain,0,[0,1],[],3,[ah (iW (ay .eq (aK (aa 1) (ak 0)) (aq [114,101,102])) (ao 27 [aa 0,aa 1]) (eList []))]⟩
def c29:Fn:=⟨.plain,0,[0,1],[],8,[b7 (ay .eq (aK (aa 1) (ak 0)) (aq [110,117,109,98,101,114])) [ah (ao 21 [aK (aa 1) (ak 1)])] [],
  (b7 (ay .eq (aK (aa 1) (ak 0)) (aq [116,101,120,116])) [ah (ao 18 [aK (aa 1) (ak 1)])] []),
  (af (aj 2) (iW (kE [ay .eq (aK (aa 1) (ak 0)) (aq [114,101,102]),jb (eg (ao 24 [aa 0,aa 1]))]) (ao 23 [aa 0,aa 1]) bF)),
  (b7 (Hj [ay .is (aa 2) bF,ay .is (av (aa 2) 17) bF]) [ah bF] []),
  (ah (iW (ay .is (aK (aa 1) (ak 4)) bF) (av (aa 2) 17) (ao 95 [aq [97,108,112,104,97,110,117,109,101,114,105,99],av (aa 2) 10])))]⟩
def c30:Fn:=⟨.plain,0,[0,1],[],6,[b7 (eg (ao 24 [aa 0,aa 1])) [ah (cO (.str [105,110,100,101,120,45,110,97,109,101]))] [],
  (b7 (ay .eq (aa 1) (aD [aq [102,105,103,117,114,101],aq [90,69,82,79]])) [ah (aq [110,117,109,101,114,105,99])] []),
  (af (aj 2) (ao 29 [aa 0,aa 1])),
  (b7 (ay .is (aa 2) bF) [ah (iW (ay .eq (aK (aa 1) (ak 0)) (aq [114,101,102])) (aq []) (aq [97,108,112,104,97,110,117,109,101,114,105,99]))] []),
  (ah (av (aa 2) 12))]⟩
def c31:Fn:=⟨.plain,0,[0,1],[],4,[ah (bT (ay .isIn (ao 30 [aa 0,aa 1]) (aD [aq [110,117,109,101,114,105,99],cO (.str [105,110,100,101,120,45,110,97,109,101]),aq []])))]⟩
def QI:M Bool:=(ay .ne (aa 3) (eList []))
def C4:List fF:=[af (aj 4) (qQ (aa 3)),b7 (ay .eq (aK (aa 4) (ak 0)) (aq [110,101,103])) [bJ (bN (aa 3) (aK (aa 4) (ak 1)))] [b7 (ay .isIn (aK (aa 4) (ak 0)) (xJ (cO (.str [43,32,45,32,42,32,47,32,42,42])))) [bJ (dh (aa 3) (eList [aK (aa 4) (ak 2),aK (aa 4) (ak 1)]))] [af (aj 5) (ao 28 [aa 0,aa 4]),bJ (dh (aa 2) (iW (Hj [ay .ne (aa 5) (eList []),eg (ao 31 [aa 0,aa 4])]) (aa 5) (eList [aD [aq [110,111,32,110,117,109,98,101,114],ao 33 [aa 4]]])))]]]
def ZM:Fn:=⟨.plain,0,[0,1],[],10,[bG [aj 2,aj 3] [eList [],eList [aa 1]],
  (ic QI C4),
  (ah (aa 2))]⟩
def c33:Fn:=⟨.plain,0,[0],[],1,[b7 (ay .eq (aK (aa 0) (ak 0)) (aq [114,101,102])) [ah (aK (aa 0) (ak 1))] [],
  (ah (Dt (gJ [[116,101,120,116],[110,117,109,98,101,114],[102,105,103,117,114,101],[97,108,108]] [aq [97,32,108,105,116,101,114,97,108],aq [97,32,108,105,116,101,114,97,108],aq [97,32,102,105,103,117,114,101],aq [97,32,102,105,103,117,114,101]]) (aK (aa 0) (ak 0)) (aq [97,110,32,101,120,112,114,101,115,115,105,111,110])))]⟩
def c34:Fn:=⟨.plain,0,[0,1,2],[],6,[af (aj 3) (ao 27 [aa 0,aa 1]),
  (b7 (kE [ay .eq (aa 3) (eList []),ay .ry (ao 30 [aa 0,aa 1]) (aa 2)]) [bJ (bN (aa 3) (aD [aq [110,111,32,112,108,97,99,101,32,111,102,32,116,104,105,115,32,107,105,110,100],aK (aa 1) (ak 1)]))] []),
  (ah (aa 3))]⟩
def LW:List fF:=[bJ (dh (aa 3) (ao 34 [aa 0,aa 4,iW (ay .eq (aa 6) (aq [61])) (cO (.tup [.str [110,117,109,101,114,105,99],.str [101,100,105,116,101,100]])) (aD [aq [110,117,109,101,114,105,99]])]))]
def X5:Fn:=⟨.plain,0,[0,1,2],[],10,[af (aj 3) (ao 32 [aa 0,aa 1]),
  (dY (dX [aj 4,aj 5,aj 6]) (srcOf (aa 2)) LW),
  (ah (aa 3))]⟩
def c36:Fn:=⟨.plain,0,[0,1],[],3,[b7 (ay .ne (bT (ay .lt (aa 0) (ak 0))) (bT (ay .lt (aa 1) (ak 0)))) [ah (sP (aE .fdiv (lE (aa 0)) (lE (aa 1))))] [],
  (ah (aE .fdiv (lE (aa 0)) (lE (aa 1))))]⟩
def ZN:Fn:=⟨.plain,0,[0,1],[.int 0],2,[b7 (ay .lt (aa 1) (ak 0)) [ah (aD [aE .mul (aa 0) (aE .pow (ak 10) (sP (aa 1))),ak 0])] [],
  (ic (kE [ay .gt (aa 1) (ak 0),ay .eq (aE .mod (aa 0) (ak 10)) (ak 0)]) [af (aj 0) (aE .fdiv (aa 0) (ak 10)),af (aj 1) (aE .sub (aa 1) (ak 1))]),
  (ah (aD [aa 0,aa 1]))]⟩
def c38:Fn:=⟨.plain,0,[0,1],[],8,[b7 (ay .gt (aa 1) (cO (.int 30))) [af (aj 0) (ao 36 [aa 0,aE .pow (ak 10) (aE .sub (aa 1) (cO (.int 30)))]),af (aj 1) (cO (.int 30))] [],
  (b7 (jb (eg (ao 48 [aa 0,cO (.int 120)]))) [cQ 2 (aq [109,111,114,101,32,102,105,103,117,114,101,115,32,116,104,97,110,32,97,114,101,32,107,101,112,116])] []),
  (ah (ao 37 [aa 0,aa 1]))]⟩
def c39:Fn:=⟨.plain,0,[0,1],[],4,[af (aj 2) (Dp (aK (aa 0) (ak 1)) (aK (aa 1) (ak 1))),
  (ah (aD [aE .mul (aK (aa 0) (ak 0)) (aE .pow (ak 10) (aE .sub (aa 2) (aK (aa 0) (ak 1)))),aE .mul (aK (aa 1) (ak 0)) (aE .pow (ak 10) (aE .sub (aa 2) (aK (aa 1) (ak 1)))),aa 2]))]⟩
def c40:Fn:=⟨.plain,0,[0,1],[],7,[af (dX [aj 2,aj 3,aj 4]) (ao 39 [aa 0,aa 1]),
  (ah (ao 37 [aE .add (aa 2) (aa 3),aa 4]))]⟩
def c41:Fn:=⟨.plain,0,[0,1],[],7,[af (dX [aj 2,aj 3,aj 4]) (ao 39 [aa 0,aa 1]),
  (ah (ao 37 [aE .sub (aa 2) (aa 3),aa 4]))]⟩
def c42:Fn:=⟨.plain,0,[0,1],[],3,[ah (ao 38 [aE .mul (aK (aa 0) (ak 0)) (aK (aa 1) (ak 0)),aE .add (aK (aa 0) (ak 1)) (aK (aa 1) (ak 1))])]⟩
def c43:Fn:=⟨.plain,0,[0],[],1,[ah (aD [sP (aK (aa 0) (ak 0)),aK (aa 0) (ak 1)])]⟩
def c44:Fn:=⟨.plain,0,[0,1,2],[.int 30],6,[b7 (ay .eq (aK (aa 1) (ak 0)) (ak 0)) [cQ 2 (aq [97,32,100,105,118,105,115,105,111,110,32,98,121,32,48])] [],
  (ah (ao 37 [ao 36 [aE .mul (aK (aa 0) (ak 0)) (aE .pow (ak 10) (aE .add (aa 2) (aK (aa 1) (ak 1)))),aE .mul (aK (aa 1) (ak 0)) (aE .pow (ak 10) (aK (aa 0) (ak 1)))],aa 2]))]⟩
def c45:Fn:=⟨.plain,0,[0,1,2],[],7,[b7 (ay .ge (aa 1) (aK (aa 0) (ak 1))) [ah (aE .mul (aK (aa 0) (ak 0)) (aE .pow (ak 10) (aE .sub (aa 1) (aK (aa 0) (ak 1)))))] [],
  (af (aj 3) (aE .pow (ak 10) (aE .sub (aK (aa 0) (ak 1)) (aa 1)))),
  (b7 (jb (eg (aa 2))) [ah (ao 36 [aK (aa 0) (ak 0),aa 3])] []),
  (af (aj 4) (aE .fdiv (aE .add (aE .mul (ak 2) (lE (aK (aa 0) (ak 0)))) (aa 3)) (aE .mul (ak 2) (aa 3)))),
  (ah (iW (ay .lt (aK (aa 0) (ak 0)) (ak 0)) (sP (aa 4)) (aa 4)))]⟩
def c46:Fn:=⟨.plain,0,[0],[],1,[ah (bT (ay .eq (aK (aa 0) (ak 1)) (ak 0)))]⟩
def c47:Fn:=⟨.plain,0,[0],[],2,[ah (ao 45 [aa 0,ak 0,cu false])]⟩
def LX:Fn:=⟨.plain,0,[0,1],[],3,[ah (bT (ay .lt (lE (aa 0)) (aE .pow (ak 10) (aa 1))))]⟩
def c49:Fn:=⟨.plain,0,[0,1],[],5,[af (aj 2) (aE .mod (lE (aa 1)) (ao 16 [aa 0])),
  (ah (iW (kE [ay .lt (aa 1) (ak 0),eg (av (aa 0) 15)]) (aE .sub (ak 0) (aa 2)) (aa 2)))]⟩
def c50:Fn:=⟨.plain,0,[0,1],[],6,[bG [aj 2,aj 3] [eList [],aa 0],
  (dY (aj 4) (bU (ak 0) (aa 1)) [bJ (bN (aa 2) (aE .mod (aa 3) (ak 10))),af (aj 3) (aE .fdiv (aa 3) (ak 10))]),
  (ah (xG (aa 2)))]⟩
def c51:Fn:=⟨.plain,0,[0,1],[],15,[af (aj 2) (er 3 [] (srcOf (ao 50 [lE (aa 1),av (aa 0) 13])) (aj 1) [] (aE .add (cO (.int 48)) (aa 1))),
  (b7 (jb (eg (av (aa 0) 15))) [ah (ek (aa 2))] []),
  (b7 (eg (av (aa 0) 18)) [af (aj 3) (eList [iW (ay .lt (aa 1) (ak 0)) (cO (.int 45)) (cO (.int 43))]),ah (ek (iW (ay .eq (av (aa 0) 19) (aq [108,101,97,100,105,110,103])) (aE .add (aa 3) (aa 2)) (aE .add (aa 2) (aa 3))))] []),
  (af (aj 4) (iW (ay .eq (av (aa 0) 19) (aq [108,101,97,100,105,110,103])) (ak 0) (aE .sub (jc (aa 2)) (ak 1)))),
  (af (aj 5) (iW (ay .lt (aa 1) (ak 0)) (cO (.bytes [125,74,75,76,77,78,79,80,81,82])) (cO (.bytes [123,65,66,67,68,69,70,71,72,73])))),
  (af (nZ (aa 2) (aa 4)) (aK (aa 5) (aE .sub (aK (aa 2) (aa 4)) (cO (.int 48))))),
  (ah (ek (aa 2)))]⟩
def c52:Fn:=⟨.plain,0,[0,1],[],7,[bG [aj 2,aj 3] [aE .mod (aa 1) (aE .pow (ak 256) (av (aa 0) 10)),eList []],
  (dY (aj 4) (bU (ak 0) (av (aa 0) 10)) [bJ (bN (aa 3) (aE .mod (aa 2) (ak 256))),af (aj 2) (aE .fdiv (aa 2) (ak 256))]),
  (ah (ek (xG (aa 3))))]⟩
def c53:Fn:=⟨.plain,0,[0,1],[],7,[af (aj 2) (ao 49 [aa 0,aa 1]),
  (b7 (ay .eq (av (aa 0) 20) (aq [100,105,115,112,108,97,121])) [ah (ao 51 [aa 0,aa 2])] []),
  (ah (iW (ay .eq (av (aa 0) 20) (aq [112,97,99,107,101,100])) cF (ao 52 [aa 0,aa 2])))]⟩
def c54:Fn:=⟨.plain,0,[0],[],6,[af (aj 1) (ak 0),
  (dY (dX [aj 2,aj 3]) (lF (aa 0)) [b7 (jb (o5 .le .le (ak 0) (aa 3) (ak 9))) [cF] [],af (aj 1) (aE .add (aE .mul (ak 10) (aa 1)) (aa 3))]),
  (ah (aa 1))]⟩
def c55:Fn:=⟨.plain,0,[0,1],[],11,[bG [aj 2,aj 3] [er 3 [] (srcOf (aa 1)) (aj 1) [] (aE .sub (aa 1) (cO (.int 48))),cu false],
  (af (aj 4) (rA 94 0 (aa 0) [])),
  (b7 (kE [ay .ge (aa 4) (ak 0),eg (av (aa 0) 18)]) [b7 (kE [ay .ne (aK (aa 1) (aa 4)) (cO (.int 43)),ay .ne (aK (aa 1) (aa 4)) (cO (.int 45))]) [cF] [],af (aj 3) (bT (ay .eq (aK (aa 1) (aa 4)) (cO (.int 45)))),af (aj 2) (aE .add cF cF)] [b7 (ay .ge (aa 4) (ak 0)) [af (dX [nZ (aa 2) (aa 4),aj 3]) cF] []]),
  (af (aj 5) (ao 54 [aa 2])),
  (ah (iW (eg (aa 3)) (aE .sub (ak 0) (aa 5)) (aa 5)))]⟩
def c56:Fn:=⟨.plain,0,[0,1],[],10,[b7 (ay .ne (jc (aa 1)) (av (aa 0) 10)) [cQ 1 (aq [97,32,110,117,109,98,101,114,32,111,102,32,97,110,111,116,104,101,114,32,115,105,122,101])] [],
  (b7 (ay .eq (av (aa 0) 20) (aq [100,105,115,112,108,97,121])) [ah (ao 55 [aa 0,aa 1])] []),
  (af (aj 2) (iW (ay .eq (av (aa 0) 20) (aq [112,97,99,107,101,100])) cF cF)),
  (b7 (ay .ge (lE (aa 2)) (ao 16 [aa 0])) [cQ 1 (aq [97,32,110,117,109,98,101,114,32,119,105,116,104,32,116,111,111,32,109,97,110,121,32,102,105,103,117,114,101,115])] []),
  (ah (aa 2))]⟩
def c57:Fn:=⟨.plain,0,[0,1],[],4,[ah (ao 37 [ao 56 [aa 0,aa 1],av (aa 0) 14])]⟩
def c58:Fn:=⟨.plain,0,[0],[],3,[b7 (Hj [ay .eq (av (av (aa 0) 17) 12) (aq [105,110,100,101,120]),eg (ao 14 [av (aa 0) 17])]) [ah (ao 53 [av (aa 0) 17,ak 0])] [],
  (ah (aE .mul (gD [32]) (av (aa 0) 10)))]⟩
def c59:Fn:=⟨.plain,0,[0],[],6,[b7 (ay .j9 (av (aa 0) 22) bF) [ah cF] [],
  (b7 (jb (eg (ao 9 [aa 0]))) [ah (ao 58 [aa 0])] []),
  (af (aj 1) (er 2 [] (srcOf (ao 10 [aa 0])) (aj 1) [ay .eq (av (aa 1) 23) (aq [])] (aa 1))),
  (ah (Dv (er 3 [] (srcOf (aa 1)) (aj 1) [] (aE .mul (ao 59 [aa 1]) (rA 93 1 (aa 1) [])))))]⟩
def c60:Fn:=⟨.plain,0,[0],[],7,[af (aj 1) (vm (aE .mul (gD [32]) (av (aa 0) 10))),
  (dY (aj 2) (srcOf (av (aa 0) 2)) [dY (aj 3) (srcOf (xG (aK (av (aa 0) 2) (aa 2)))) [af (xK (aa 1) (av (aa 3) 9) (aE .add (av (aa 3) 9) (av (aa 3) 10))) (ao 59 [aa 3])]]),
  (dY (aj 3) (srcOf (av (aa 0) 4)) [b7 (ay .eq (av (aa 3) 23) (aq [])) [af (xK (aa 1) (av (aa 3) 9) (aE .add (av (aa 3) 9) (av (aa 3) 10))) (ao 59 [aa 3])] []]),
  (ah (ek (aa 1)))]⟩
def X6:M Bool:=(eg (aa 2))
def PC:List fF:=[af (dX [aj 3,aj 4]) (qQ (aa 2)),b7 (ay .eq (aa 3) (aq [111,112])) [bJ (bN (aa 1) (aD [aa 3,aa 4]))] [b7 (ay .isIn (aK (aa 4) (ak 0)) (cO (.tup [.str [43],.str [45],.str [42],.str [47],.str [42,42]]))) [bJ (dh (aa 2) (eList [aD [aq [111,112],aK (aa 4) (ak 0)],aD [aq [101,120,112,114],aK (aa 4) (ak 2)],aD [aq [101,120,112,114],aK (aa 4) (ak 1)]]))] [b7 (ay .eq (aK (aa 4) (ak 0)) (aq [110,101,103])) [bJ (dh (aa 2) (eList [aD [aq [111,112],aq [110,101,103]],aD [aq [101,120,112,114],aK (aa 4) (ak 1)]]))] [bJ (bN (aa 1) (aD [aq [108,101,97,102],aa 4]))]]]]
def X7:Fn:=⟨.plain,0,[0],[],6,[af (aj 1) (eList []),
  (af (aj 2) (eList [aD [aq [101,120,112,114],aa 0]])),
  (ic X6 PC),
  (ah (aa 1))]⟩
def c62:Fn:=⟨.plain,0,[0,1,2],[],8,[b7 (ay .eq (aa 0) (aq [43])) [ah (ao 40 [aa 1,aa 2])] [],
  (b7 (ay .eq (aa 0) (aq [45])) [ah (ao 41 [aa 1,aa 2])] []),
  (b7 (ay .eq (aa 0) (aq [42])) [ah (ao 42 [aa 1,aa 2])] []),
  (ah (iW (ay .eq (aa 0) (aq [47])) (ao 44 [aa 1,aa 2]) cF))]⟩
def Gl:List fF:=[b7 (ay .eq (aa 3) (aq [108,101,97,102])) [bJ (bN (aa 2) (kF 1 [aa 4]))] [b7 (ay .eq (aa 4) (aq [110,101,103])) [bJ (bN (aa 2) (ao 43 [qQ (aa 2)]))] [af (aj 5) (qQ (aa 2)),bJ (bN (aa 2) (ao 62 [aa 4,qQ (aa 2),aa 5]))]]]
def VI:Fn:=⟨.plain,0,[0,1],[],9,[af (aj 2) (eList []),
  (dY (dX [aj 3,aj 4]) (srcOf (ao 61 [aa 0])) Gl),
  (ah (qQ (aa 2)))]⟩
def c64:Fn:=⟨.plain,0,[0,1],[],2,[ah (o6 [bT (ay .eq (aK (aa 1) (ak 0)) (aq [114,101,102])),bT (ay .eq (aK (aa 1) (ak 2)) (aD [])),bT (ay .isIn (aK (aa 1) (ak 1)) (av (aa 0) 16))])]⟩
def c65:Fn:=⟨.plain,0,[0,1],[],4,[b7 (ay .eq (av (aa 1) 25) (aq [])) [ah (aD [av (aa 0) 27,ak 0,jc (av (aa 0) 27)])] [],
  (b7 (ay .ry (av (aa 1) 25) (av (aa 0) 26)) [cQ 1 (aE .add (aq [110,111,98,111,100,121,32,104,97,110,100,101,100,32,116,104,105,115,32,114,101,99,111,114,100,32,105,110,58,32]) (av (aa 1) 25))] []),
  (ah (aK (av (aa 0) 26) (av (aa 1) 25)))]⟩
def c66:Fn:=⟨.plain,0,[0,1,2,3],[],9,[af (dX [aj 4,aj 5,aj 6]) (ao 65 [aa 0,aa 1]),
  (b7 (ay .gt (aE .add (aE .add (aa 5) (aa 2)) (aa 3)) (aa 6)) [cQ 1 (aq [97,32,114,101,99,111,114,100,32,104,97,110,100,101,100,32,105,110,32,105,115,32,115,104,111,114,116,101,114,32,116,104,97,110,32,119,104,97,116,32,105,115,32,97,115,107,101,100,32,111,102,32,105,116])] []),
  (ah (aD [aa 4,aE .add (aa 5) (aa 2)]))]⟩
def c67:Fn:=⟨.plain,0,[0,1],[],4,[b7 (ay .is (aa 1) bF) [ah bF] [],
  (af (aj 2) (iW (ay .is (aK (aa 1) (ak 1)) bF) bF (ao 72 [aa 0,aK (aa 1) (ak 1)]))),
  (ah (aD [ao 72 [aa 0,aK (aa 1) (ak 0)],aa 2]))]⟩
def c68:Fn:=⟨.plain,0,[0,1],[],13,[af (aj 2) (ao 1 [av (av (aa 0) 29) 28,aK (aa 1) (ak 1),aK (aa 1) (ak 2)]),
  (af (aj 3) (ao 67 [aa 0,aK (aa 1) (ak 4)])),
  (af (dX [aj 4,aj 5]) (ao 13 [aa 2,er 4 [(3,0)] (srcOf (aK (aa 1) (ak 3))) (aj 1) [] (ao 72 [aa 3,aa 1]),aa 3])),
  (af (dX [aj 6,aj 7]) (ao 66 [aa 0,aa 2,aa 4,aa 5])),
  (ah (aD [aa 6,aa 7,iW (ay .is (aa 3) bF) (av (aa 2) 17) (ao 95 [aq [97,108,112,104,97,110,117,109,101,114,105,99],aa 5])]))]⟩
def c69:Fn:=⟨.plain,0,[0,1],[],12,[b7 (ay .eq (aK (aa 1) (ak 0)) (aq [114,101,102])) [af (dX [aj 2,aj 3,aj 4]) (ao 68 [aa 0,aa 1]),ah (aD [aa 4,HU (aa 2) (aa 3) (aE .add (aa 3) (av (aa 4) 10))])] [],
  (b7 (ay .eq (aK (aa 1) (ak 0)) (aq [110,117,109,98,101,114])) [af (aj 4) (ao 21 [aK (aa 1) (ak 1)]),ah (aD [aa 4,ao 53 [aa 4,ao 45 [aK (aa 1) (ak 1),av (aa 4) 14,cu false]]])] []),
  (b7 (ay .eq (aK (aa 1) (ak 0)) (aq [116,101,120,116])) [ah (aD [ao 18 [aK (aa 1) (ak 1)],aK (aa 1) (ak 1)])] []),
  (cQ 1 (aq [97,32,102,105,103,117,114,101,32,111,102,32,110,111,32,115,105,122,101]))]⟩
def c70:Fn:=⟨.plain,0,[0,1],[],10,[b7 (ay .eq (aK (aa 1) (ak 0)) (aq [110,117,109,98,101,114])) [ah (aK (aa 1) (ak 1))] [],
  (b7 (ay .eq (aa 1) (aD [aq [102,105,103,117,114,101],aq [90,69,82,79]])) [ah (aD [ak 0,ak 0])] []),
  (b7 (eg (ao 64 [aa 0,aa 1])) [ah (ao 37 [aK (av (aa 0) 16) (aK (aa 1) (ak 1))])] []),
  (af (dX [aj 2,aj 3]) (ao 69 [aa 0,aa 1])),
  (b7 (jb (eg (ao 15 [aa 2]))) [cQ 1 (aq [110,111,32,110,117,109,98,101,114])] []),
  (ah (ao 57 [aa 2,aa 3]))]⟩
def c71:Fn:=⟨.plain,0,[0,1],[],3,[ah (ao 63 [aa 1,xF 101 [0]])]⟩
def c72:Fn:=⟨.plain,0,[0,1],[],7,[af (aj 2) (ao 71 [aa 0,aa 1]),
  (b7 (jb (eg (ao 46 [aa 2]))) [cQ 1 (aq [110,111,32,119,104,111,108,101,32,110,117,109,98,101,114])] []),
  (ah (ao 47 [aa 2]))]⟩
def c73:Fn:=⟨.plain,0,[0,1],[],5,[b7 (ay .eq (av (aa 0) 12) (aq [101,100,105,116,101,100])) [ah cF] [],
  (ah (ao 53 [aa 0,aa 1]))]⟩
def c74:Fn:=⟨.plain,0,[0,1,2,3],[],16,[b7 (eg (ao 64 [aa 0,aa 1])) [b7 (jb (eg (ao 46 [aa 2]))) [cQ 1 (aq [110,111,32,119,104,111,108,101,32,110,117,109,98,101,114])] [],af (nZ (av (aa 0) 16) (aK (aa 1) (ak 1))) (ao 47 [aa 2]),ah (cu false)] [],
  (af (dX [aj 4,aj 5,aj 6]) (ao 68 [aa 0,aa 1])),
  (b7 (ay .ry (av (aa 6) 12) (aD [aq [110,117,109,101,114,105,99],aq [101,100,105,116,101,100]])) [cQ 1 (aq [110,111,32,112,108,97,99,101,32,102,111,114,32,97,32,110,117,109,98,101,114])] []),
  (af (aj 7) (ao 45 [aa 2,av (aa 6) 14,aa 3])),
  (b7 (jb (eg (ao 48 [aa 7,av (aa 6) 13]))) [ah (cu true)] []),
  (af (xK (aa 4) (aa 5) (aE .add (aa 5) (av (aa 6) 10))) (ao 73 [aa 6,aa 7])),
  (ah (cu false))]⟩
def c75:Fn:=⟨.plain,0,[0,1,2],[],7,[b7 (ay .eq (aa 0) (aq [43])) [ah (ao 40 [aa 1,aa 2])] [],
  (b7 (ay .eq (aa 0) (aq [45])) [ah (ao 41 [aa 1,aa 2])] []),
  (b7 (ay .eq (aa 0) (aq [42])) [ah (ao 42 [aa 1,aa 2])] []),
  (ah (ao 44 [aa 1,aa 2]))]⟩
def c76:Fn:=⟨.plain,0,[0,1,2,3],[],10,[af (dX [aj 4,aj 5,aj 6]) (aa 0),
  (b7 (ay .eq (aa 6) (aq [61])) [ah (kF 3 [aa 4,aa 1,aa 5])] []),
  (sZ [af (aj 7) (ao 75 [aa 6,kF 2 [aa 4],aa 1])] [2] .none [ah (cu true)]),
  (ah (kF 3 [aa 4,aa 7,aa 5]))]⟩
def c77:Fn:=⟨.plain,0,[0,1,2,3],[],7,[af (aj 4) (cu false),
  (dY (aj 5) (srcOf (aa 0)) [b7 (eg (ao 76 [aa 5,aa 1,aa 2,aa 3])) [af (aj 4) (cu true)] []]),
  (ah (aa 4))]⟩
def c78:Fn:=⟨.plain,0,[0,1,2],[],4,[ah (ao 77 [aa 1,aa 2,xF 102 [0],xF 103 [0]])]⟩
def TJ:Fn:=⟨.plain,0,[0],[],6,[af (aj 1) (ak 0),
  (dY (aj 2) (srcOf (o8 (aa 0) 30)) [af (aj 1) (aE .add (aE .add (aE .mul (aa 1) (ak 1009)) (aE .mod (lE (mP (aa 2))) (aE .pow (ak 10) (ak 40)))) (aE .mul (aE .mul (ak 7) (aE .pow (ak 10) (ak 41))) (mP (bT (ay .lt (aa 2) (ak 0))))))]),
  (ah (sO [aa 1,jc (o8 (aa 0) 30)]))]⟩
def c80:Fn:=⟨.plain,0,[0,1],[],3,[b7 (ay .eq (aK (aa 0) (ak 0)) (ak 0)) [af (nZ (aa 0) (ak 1)) (aE .add (aK (aa 0) (ak 1)) (ak 1)),af (nZ (aa 0) (ak 0)) (aE .pow (aE .add (aE .mul (ak 1733) (aK (aa 0) (ak 1))) (ak 4099)) (ak 11))] [],
  (af (aj 2) (aE .mod (aK (aa 0) (ak 0)) (aa 1))),
  (af (nZ (aa 0) (ak 0)) (aE .fdiv (aK (aa 0) (ak 0)) (aa 1))),
  (ah (aa 2))]⟩
def c81:Fn:=⟨.plain,0,[0,1,2,3,4],[.int 0],8,[af (aj 5) (ao 96 [ak 5,aa 1]),
  (fW [aO (aa 5) 9,aO (aa 5) 10,aO (aa 5) 17] [aa 2,av (aa 3) 10,aa 3]),
  (b7 (ay .gt (aa 4) (ak 0)) [af (aO (aa 5) 7) (ao 97 [ak 1,aa 4])] []),
  (bJ (rA 92 1 (aa 0) [aa 5])),
  (ah (aa 5))]⟩
def c82:Fn:=⟨.plain,0,[0],[],2,[ah (ao 19 [aq [110,117,109,101,114,105,99],aa 0,aq [100,105,115,112,108,97,121],aa 0,ak 0,cu false])]⟩
def c83:Fn:=⟨.plain,0,[],[],16,[bG [aj 0,aj 1] [ao 98 [],ao 96 [ak 1,aq [82]]],
  (fW [aO (aa 1) 10,aO (aa 1) 17] [ak 27,ao 17 [ak 27]]),
  (bJ (ao 81 [aa 1,aq [65,76],ak 0,ao 95 [aq [97,108,112,104,97,98,101,116,105,99],ak 3]])),
  (bJ (ao 81 [aa 1,aq [65,78],ak 3,ao 18 [gD [120,120,120,120]]])),
  (bJ (ao 81 [aa 1,aq [78,85],ak 7,ao 82 [ak 4]])),
  (bJ (ao 81 [aa 1,aq [73,88],ak 11,ao 22 []])),
  (af (aj 2) (ao 81 [aa 1,aq [84],ak 15,ao 17 [ak 4],ak 3])),
  (bJ (ao 81 [aa 2,aq [75],ak 15,ao 82 [ak 2]])),
  (bJ (ao 81 [aa 2,aq [85],ak 17,ao 18 [gD [120]],ak 2])),
  (bJ (bN (av (aa 0) 4) (aa 1))),
  (dY (dX [aj 3,aj 4]) (srcOf (aD [aD [ak 27,aq [82,50]],aD [ak 28,aq [82,51]]])) [af (aj 5) (ao 96 [ak 1,aa 4]),fW [aO (aa 5) 9,aO (aa 5) 10,aO (aa 5) 17] [aa 3,ak 1,ao 17 [ak 1]],bJ (ao 81 [aa 5,aq [84,87,73,67,69],aa 3,ao 82 [ak 1]]),bJ (bN (av (aa 0) 4) (aa 5))]),
  (fW [aO (aa 0) 10,aO (aa 0) 16] [ak 29,gJ [[84,45,73]] [aa 2]]),
  (ah (ao 99 [ao 100 [aq [80],aa 0,gJ [] [],bF],bF,eList []]))]⟩
def c84:Fn:=⟨.plain,0,[0],[],5,[af (aj 1) (er 4 [(3,0)] (bU (ak 0) (ak 29)) (aj 1) [] (aE .add (ak 48) (ao 80 [aa 3,ak 10]))),
  (af (nZ (aa 1) (ak 27)) (aE .add (ak 49) (ao 80 [aa 0,ak 2]))),
  (ah (ek (aa 1)))]⟩
def c85:Fn:=⟨.plain,0,[0,1,2,3],[.tup [],.tup [],.none],4,[ah (aD [aq [114,101,102],aa 0,aa 1,aa 2,aa 3])]⟩
def c86:Fn:=⟨.plain,0,[0,1],[],8,[bG [aj 2,aj 3] [ao 80 [aa 0,ak 7],ao 80 [aa 0,ak 2]],
  (af (aj 4) (ao 85 [aq [84,87,73,67,69],aD [aq [82,50]]])),
  (b7 (ay .lt (aa 2) (ak 2)) [ah (aD [aD [aq [110,117,109,98,101,114],aD [aE .add (ak 1) (aa 3),ak 0]],aE .add (ak 1) (aa 3)])] []),
  (b7 (ay .eq (aa 2) (ak 2)) [ah (aD [ao 85 [aq [84,45,73]],ak 1])] []),
  (b7 (ay .eq (aa 2) (ak 3)) [ah (aD [aa 4,aE .sub (aK (aa 1) (ak 27)) (ak 48)])] []),
  (b7 (ay .lt (aa 2) (ak 6)) [ah (aD [aD [aq [45],aD [aq [110,117,109,98,101,114],aD [ak 3,ak 0]],aa 4],aE .sub (ak 51) (aK (aa 1) (ak 27))])] []),
  (af (aj 5) (eList [ao 85 [aq [65,78]],aD [aq [116,101,120,116],gD [49]],aD [aq [102,105,103,117,114,101],aq [83,80,65,67,69]],ao 85 [aq [78,79]],ao 85 [aq [84,87,73,67,69]],aD [aq [43],aD [aq [110,117,109,98,101,114],aD [ak 1,ak 0]],ao 85 [aq [65,76]]]])),
  (ah (aD [aK (aa 5) (ao 80 [aa 0,ak 6]),ak 0]))]⟩
def Ks:Fn:=⟨.plain,0,[0,1,2],[],24,[af (aj 3) (gJ [[82],[65,76],[65,78],[78,85],[73,88],[84],[75],[85]] [aD [ak 0,ak 27,ak 0],aD [ak 0,ak 3,ak 0],aD [ak 3,ak 4,ak 0],aD [ak 7,ak 4,ak 0],aD [ak 11,ak 4,ak 0],aD [ak 15,ak 4,ak 1],aD [ak 15,ak 2,ak 1],aD [ak 17,ak 1,ak 2]]),
  (bG [aj 4,aj 5] [aK (aa 2) (ao 80 [aa 0,jc (aa 2)]),ao 80 [aa 0,ak 4]]),
  (b7 (ay .eq (aa 4) (aq [84,45,73])) [ah (aD [ao 85 [aa 4],bF])] []),
  (af (aj 6) (aK (aD [aD [],aD [],aD [aq [82]],aD [aq [82,50]]]) (aa 5))),
  (b7 (ay .eq (aa 4) (aq [84,87,73,67,69])) [af (aj 6) (aK (aD [aD [],aD [aq [82,51]],aD [aq [82,50]],aD [aq [82,50]]]) (aa 5)),af (nZ (aa 3) (aa 4)) (aD [iW (ay .eq (aa 5) (ak 1)) (ak 28) (ak 27),ak 1,ak 0])] []),
  (af (aj 7) (o6 [bT (ay .isIn (aa 4) (aa 3)),iW (ay .eq (aa 4) (aq [84,87,73,67,69])) (bT (ay .gt (aa 5) (ak 0))) (Qz [bT (ay .lt (aa 5) (ak 2)),o6 [bT (ay .eq (aa 5) (ak 2)),bT (ay .ne (aa 4) (aq [82]))]])])),
  (af (dX [aj 8,aj 9,aj 10]) (Dt (aa 3) (aa 4) (aD [ak 0,ak 0,ak 0]))),
  (af (aj 11) (Dp (ak 0) (aE .add (aa 10) (aK (aD [ak 0,ak 0,ak 0,ak 0,ak 1,sP (ak 1)]) (ao 80 [aa 0,ak 6]))))),
  (af (aj 12) (er 5 [(3,1),(4,0)] (bU (ak 0) (aa 11)) (aj 1) [] (ao 86 [aa 4,aa 3]))),
  (af (aj 7) (o6 [aa 7,bT (ay .eq (aa 11) (aa 10)),bT (ay .eq (er 2 [] (srcOf (aa 12)) (aj 1) [ay .eq (aK (aa 1) (ak 1)) (ak 0)] (aa 1)) (eList []))])),
  (bG [aj 14,aj 15] [bF,ao 80 [aa 0,ak 9]]),
  (b7 (ay .lt (aa 15) (ak 3)) [af (aj 14) (aD [iW (ay .eq (aa 15) (ak 0)) (ao 85 [aq [65,78]]) (aD [aq [110,117,109,98,101,114],aD [ak 1,ak 0]]),iW (ay .eq (aa 15) (ak 1)) bF (aD [aq [110,117,109,98,101,114],aD [ak 1,ak 0]])]),bG [aj 7,aj 9] [o6 [aa 7,bT (ay .gt (aa 15) (ak 0))],iW (ay .eq (aa 15) (ak 1)) (aa 9) (ak 1)]] []),
  (b7 (eg (aa 7)) [dY (dX [aj 16,aj 13]) (o9 (aD [ak 4,ak 1]) (aa 12)) [af (aj 8) (aE .add (aa 8) (aE .mul (aa 16) (aE .sub (aK (aa 13) (ak 1)) (ak 1))))]] []),
  (ah (aD [ao 85 [aa 4,aa 6,kH (er 2 [] (srcOf (aa 12)) (aj 1) [] (aK (aa 1) (ak 0))),aa 14],iW (eg (aa 7)) (aD [aa 8,aa 9]) bF]))]⟩
def c88:Fn:=⟨.plain,0,[0,1],[],6,[af (aj 2) (ao 80 [aa 0,ak 9]),
  (b7 (ay .lt (aa 2) (ak 2)) [ah (aD [aq [110,117,109,98,101,114],aD [aE .sub (aE .mul (ak 10) (ao 80 [aa 0,ak 90])) (ak 399),ao 80 [aa 0,ak 3]]])] []),
  (b7 (ay .eq (aa 2) (ak 2)) [ah (aK (eList [aD [aq [102,105,103,117,114,101],aq [90,69,82,79]],aD [aq [102,105,103,117,114,101],aq [90,69,82,79]],aD [aq [102,105,103,117,114,101],aq [72,73,71,72]],aD [aq [116,101,120,116],gD [49,50]],aD [aq [97,108,108],gD [55]]]) (ao 80 [aa 0,ak 5]))] []),
  (af (aj 3) (iW (ay .lt (aa 2) (ak 7)) (aD [aq [78,85],aq [78,85],aq [75],aq [75],aq [84,87,73,67,69],aq [84,45,73]]) (aD [aq [78,85],aq [65,78],aq [82],aq [85],aq [75],aq [78,79],aq [84]]))),
  (ah (aK (ao 87 [aa 0,aa 1,aa 3]) (ak 0)))]⟩
def c89:Fn:=⟨.plain,0,[0,1],[],9,[af (aj 2) (ao 88 [aa 0,aa 1]),
  (dY (aj 3) (bU (ak 0) (ao 80 [aa 0,ak 4])) [af (aj 4) (ao 80 [aa 0,ak 5]),b7 (ay .eq (aa 4) (ak 4)) [af (aj 2) (aD [aq [110,101,103],aa 2]),Dy] [],af (aj 5) (ao 88 [aa 0,aa 1]),af (aj 2) (iW (ay .lt (aa 4) (ak 3)) (aD [aK (aq [43,45,42]) (aE .mod (aa 4) (ak 3)),aa 2,aa 5]) (aD [aq [45],aa 5,aa 2]))]),
  (ah (aa 2))]⟩
def c90:Fn:=⟨.plain,0,[0,1,2,3,4],[],14,[af (aj 5) (bT (ay .eq (ao 35 [av (av (aa 0) 29) 28,aa 2,aa 3]) (eList []))),
  (af (xK (av (aa 0) 27) (ak 0) (ak 29)) (aa 1)),
  (sZ [bJ (ao 78 [aa 0,aa 3,ao 63 [aa 2,xF 104 [0]]])] [0,1] .none [ah (iW (eg (aa 5)) bF (cu false))]),
  (b7 (Hj [jb (eg (aa 5)),ay .isIn bF (aa 4),ay .ne (jc (av (aa 0) 27)) (ak 29)]) [ah bF] []),
  (af (aj 6) (xO 5 [] (srcOf (aa 4)) (dX [aj 1,aj 2]) [] (bU (aa 1) (aE .add (aa 1) (aa 2))) (aj 3) [] (aa 3))),
  (ah (iW (ay .eq (er 5 [(2,1),(3,6),(4,0)] (bU (ak 0) (ak 29)) (aj 1) [kE [ay .ry (aa 1) (aa 3),ay .ne (aK (av (aa 4) 27) (aa 1)) (aK (aa 2) (aa 1))]] (aa 1)) (eList [])) (cu true) bF))]⟩
def QJ:Fn:=⟨.plain,0,[0],[],30,[bG [aj 1,aj 2] [ao 79 [aa 0],ao 83 []],
  (af (aj 3) (ao 84 [aa 1])),
  (bG [aj 4,aj 5,aj 6] [ao 85 [aq [65,78]],ao 85 [aq [78,85]],ao 85 [aq [75],aD [],aD [aD [aq [110,117,109,98,101,114],aD [ak 1,ak 0]]]]]),
  (bG [aj 7,aj 8] [ao 85 [aq [84,87,73,67,69],aD [aq [82,50]]],ao 85 [aq [84,45,73]]]),
  (af (aj 9) (eList [aD [aD [aq [43],aa 5,aa 8],aa 5,aD [ak 7,ak 4],cu true],aD [aD [aq [116,101,120,116],gD [49]],aa 5,aD [ak 7,ak 4],cu false],aD [aa 5,aa 4,aD [ak 3,ak 4],cu false]])),
  (af (aj 9) (aE .add (aa 9) (eList [aD [aD [aq [42],aa 7,aD [aq [110,117,109,98,101,114],aD [ak 25,ak 1]]],aa 6,aD [ak 15,ak 2],cu true],aD [aD [aq [43],aa 5,aa 4],aa 6,aD [ak 15,ak 2],cu false]]))),
  (af (aj 9) (aE .add (aa 9) (eList [aD [aD [aq [110,101,103],aD [aq [102,105,103,117,114,101],aq [90,69,82,79]]],aa 7,aD [ak 27,ak 1],cu true],aD [aa 5,ao 85 [aq [82]],aD [ak 0,ak 27],cu false]]))),
  (dY (dX [aj 10,dX [aj 11,aj 12,aj 13,aj 14]]) (lF (aa 9)) [b7 (ay .ne (ao 90 [aa 2,aa 3,aa 11,aD [aD [aa 12,cu true,aK (aq [61,43]) (aE .mod (aa 10) (ak 2))]],eList [aa 13]]) (aa 14)) [ah (cu false)] []]),
  (dY (aj 15) (bU (ak 0) (ak 4)) [bG [aj 11,aj 16,aj 17] [ao 89 [aa 1,aa 3],eList [],eList []],dY (aj 18) (bU (ak 0) (aE .add (ak 1) (ao 80 [aa 1,ak 2]))) [af (dX [aj 12,aj 13]) (ao 87 [aa 1,aa 3,aD [aq [78,85],aq [78,85],aq [75],aq [75],aq [65,78],aq [85],aq [82],aq [78,79]]]),bJ (bN (aa 16) (aD [aa 12,bT (ay .eq (ao 80 [aa 1,ak 2]) (ak 1)),aK (aq [61,43,45,42,47]) (ao 80 [aa 1,ak 5])])),bJ (bN (aa 17) (aa 13))],b7 (ay .is (ao 90 [aa 2,aa 3,aa 11,kH (aa 16),aa 17]) bF) [ah (cu false)] []]),
  (ah (cu true))]⟩
def c92:Fn:=⟨.plain,0,[0,1],[],2,[af (aO (aa 1) 6) (aa 0),
  (bJ (bN (av (aa 0) 5) (aa 1)))]⟩
def c93:Fn:=⟨.plain,0,[0],[],1,[ah (iW (ay .is (av (aa 0) 7) bF) (ak 1) (av (av (aa 0) 7) 11))]⟩
def c94:Fn:=⟨.plain,0,[0],[],1,[b7 (Hj [ay .ne (av (aa 0) 12) (aq [110,117,109,101,114,105,99]),ay .ne (av (aa 0) 20) (aq [100,105,115,112,108,97,121]),jb (eg (av (aa 0) 15))]) [ah (sP (ak 1))] [],
  (ah (iW (ay .eq (av (aa 0) 19) (aq [108,101,97,100,105,110,103])) (ak 0) (aE .sub (av (aa 0) 10) (ak 1))))]⟩
def c95:Fn:=⟨(.make 0),0,[0,1,2,3,4,5,6,7,8],[.none,.str [100,105,115,112,108,97,121],.str [116,114,97,105,108,105,110,103],.bool false,.bool false,.bool false],9,[af (aO (aa 0) 12) (aa 1),
  (af (aO (aa 0) 10) (aa 2)),
  (af (aO (aa 0) 30) (aa 3)),
  (af (aO (aa 0) 20) (aa 4)),
  (af (aO (aa 0) 19) (aa 5)),
  (af (aO (aa 0) 18) (aa 6)),
  (af (aO (aa 0) 33) (aa 7)),
  (af (aO (aa 0) 31) (aa 8)),
  (af (aO (aa 0) 13) (ak 0)),
  (af (aO (aa 0) 14) (ak 0)),
  (af (aO (aa 0) 15) (cu false)),
  (b7 (kE [ay .j9 (aa 3) bF,ay .isIn (aa 1) (aD [aq [110,117,109,101,114,105,99],aq [101,100,105,116,101,100]])]) [af (aO (aa 0) 13) (av (aa 3) 13),af (aO (aa 0) 14) (av (aa 3) 14),af (aO (aa 0) 15) (av (aa 3) 15)] [])]⟩
def c96:Fn:=⟨(.heap 1),0,[0,1,2],[],3,[af (aO (aa 0) 8) (aa 1),
  (af (aO (aa 0) 1) (aa 2)),
  (af (aO (aa 0) 34) bF),
  (af (aO (aa 0) 20) (aq [])),
  (af (aO (aa 0) 19) (aq [])),
  (af (aO (aa 0) 18) (cu false)),
  (af (aO (aa 0) 7) bF),
  (af (aO (aa 0) 23) (aq [])),
  (af (aO (aa 0) 22) bF),
  (af (aO (aa 0) 33) (cu false)),
  (af (aO (aa 0) 31) (cu false)),
  (af (aO (aa 0) 35) (eList [])),
  (af (aO (aa 0) 5) (eList [])),
  (af (aO (aa 0) 6) bF),
  (af (aO (aa 0) 36) bF),
  (af (aO (aa 0) 25) (aq [])),
  (af (aO (aa 0) 9) (ak 0)),
  (af (aO (aa 0) 10) (ak 0)),
  (af (aO (aa 0) 17) bF)]⟩
def c97:Fn:=⟨(.heap 2),0,[0,1,2,3,4,5],[.none,.tup [],.tup []],7,[af (aO (aa 0) 37) (aa 1),
  (af (aO (aa 0) 11) (aa 2)),
  (af (aO (aa 0) 38) (aa 3)),
  (af (aO (aa 0) 39) (kH (aa 4))),
  (af (aO (aa 0) 16) (kH (aa 5)))]⟩
def c98:Fn:=⟨(.heap 3),0,[0],[],1,[af (aO (aa 0) 4) (eList []),
  (af (aO (aa 0) 3) (eList [])),
  (af (aO (aa 0) 2) (gJ [] [])),
  (af (aO (aa 0) 40) (eList [])),
  (af (aO (aa 0) 10) (ak 0)),
  (af (aO (aa 0) 16) (gJ [] []))]⟩
def c99:Fn:=⟨(.heap 4),0,[0,1,2,3],[],9,[af (aO (aa 0) 29) (aa 1),
  (af (aO (aa 0) 41) (aa 2)),
  (af (aO (aa 0) 42) (sS (aa 3))),
  (af (aO (aa 0) 43) (eList [])),
  (af (aO (aa 0) 27) (vm (ao 60 [av (aa 1) 28]))),
  (af (aO (aa 0) 16) (gJ [] [])),
  (dY (aj 4) (srcOf (sV (av (av (aa 1) 28) 16))) [af (nZ (av (aa 0) 16) (aa 4)) (ak 1)]),
  (af (aO (aa 0) 26) (gJ [] [])),
  (af (aO (aa 0) 44) (gJ [] [])),
  (af (aO (aa 0) 45) (eList [])),
  (af (aO (aa 0) 46) (gD [])),
  (af (aO (aa 0) 40) (gJ [] []))]⟩
def X8:Fn:=⟨(.heap 5),0,[0,1,2,3,4,5],[.bool false],6,[af (aO (aa 0) 1) (aa 1),
  (af (aO (aa 0) 28) (aa 2)),
  (af (aO (aa 0) 2) (aa 3)),
  (af (aO (aa 0) 47) (aa 4)),
  (af (aO (aa 0) 48) (aa 5))]⟩
def X9:Fn:=⟨.plain,1,[1,0],[],3,[ah (ao 70 [aa 1,aa 0])]⟩
def Yb:Fn:=⟨.plain,1,[1,0],[],3,[ah (ao 70 [aa 1,aa 0])]⟩
def Yc:Fn:=⟨.plain,1,[3,0,1,2],[],5,[ah (ao 74 [aa 3,aa 0,aa 1,aa 2])]⟩
def Yd:Fn:=⟨.plain,1,[1,0],[],3,[ah (ao 70 [aa 1,aa 0])]⟩
def jW:List Fn:=[c0,c1,c2,c3,c4,c5,c6,c7,c8,c9,c10,c11,c12,c13,c14,c15,c16,c17,c18,c19,c20,c21,c22,c23,c24,c25,c26,c27,c28,c29,c30,c31,ZM,c33,c34,X5,c36,ZN,c38,c39,c40,c41,c42,c43,c44,c45,c46,c47,LX,c49,c50,c51,c52,c53,c54,c55,c56,c57,c58,c59,c60,X7,c62,VI,c64,c65,c66,c67,c68,c69,c70,c71,c72,c73,c74,c75,c76,c77,c78,TJ,c80,c81,c82,c83,c84,c85,c86,Ks,c88,c89,c90,QJ,c92,c93,c94,c95,c96,c97,c98,c99,X8,X9,Yb,Yc,Yd]
end MP
end Mine.Lake
end
section
namespace Mine.Lake
namespace MP
open PySem PySem.W PyProof.Rows
theorem TL: ∀P x k,bX (sl x) gw=some k->nF P k:=λP U k U=>PB P k
def Ku(b:Bool)(r:kY):Pw b (uU r) false:=Py TL b (uU r) (C3 r)
def QK(r:kY):List Nat:=(bC (uU r) ((Gk r).map (λU=>U.arg))).getD []
set_option genCtorIdx true in
inductive Ds where
 |fn (r:kY)
 |heap (c:Nat)
 |make (c:Nat)
 |lam (k:Nat)
def CR(k:Nat):acX×bp×abL:=(cz k).getD (⟨[],[],none,[],[],none,[]⟩,dE,⟨.module,[],false,false,[]⟩)
def rj(k:Nat):abL:=(CR k).2.2
def TM(k:Nat):List Arg:=(CR k).1.args
def PD(k:Nat):List Str:=bg (rj k).names++(TM k).map (λU=>U.arg)
def Gm(k:Nat):mC (rj k) false:=(QH 40).e (rj k) false (CR k).2.1
def TN(k:Nat):List Nat:=(bC (rj k) (PD k)).getD []
def xu(c:Nat):kY:=aH gk starts c
def rF(kd:Kind)(b:Bool)(r:kY):Fn:=⟨kd,0,QK r,r.2.2,(uU r).names.length,(Ku b r).m⟩
def Ds.f:Ds->Fn
 | .fn r=>rF .plain false r
 | .heap c=>rF (.heap c) false (xu c)
 | .make c=>rF (.make c) true (xu c)
 | .lam k=>⟨.plain,(bg (rj k).names).length,TN k,[],(rj k).names.length,[ah (Gm k).m]⟩
structure Ck where
 v:Value
 l:Bool
 es:List ec
 e:bp
 ps:Option (List Nat)
def Ds.c1(k:Nat):Ds->Ck
 | .fn r=>⟨pq k,(cz k).isSome,(Ku false r).e,dE,bC (uU r) ((Gk r).map (λU=>U.arg))⟩
 | .heap c=>⟨pq k,(cz k).isSome,(Ku false (xu c)).e,dE,bC (uU (xu c)) ((Gk (xu c)).map (λU=>U.arg))⟩
 | .make c=>⟨pq k,(cz k).isSome,(Ku true (xu c)).e,dE,bC (uU (xu c)) ((Gk (xu c)).map (λU=>U.arg))⟩
 | .lam j=>⟨pq k,bo k j,[],(Gm k).e,bC (rj k) (PD k)⟩
def Ds.c2(k:Nat):Ds->Ck
 | .fn r=>⟨.ref r.1,false,C3 r,dE,some (QK r)⟩
 | .heap c=>⟨.ref (dM c),false,C3 (xu c),dE,some (QK (xu c))⟩
 | .make c=>⟨.ref (dM c),false,C3 (xu c),dE,some (QK (xu c))⟩
 | .lam _=>⟨.none,true,[],(CR k).2.1,some (TN k)⟩
def QL:List Ds:=rD.map .fn++[.make 0,.heap 1,.heap 2,.heap 3,.heap 4,.heap 5,.lam 101,.lam 102,.lam 103,.lam 104]
noncomputable def AN:Nat->List Ds->List (Nat×Ds)
 |_,[]=>[]
 |n,d::r=>(n,d)::AN (n+1) r
def Ds.ok:Ds->Bool
 | .fn _=>true
 | .heap c=>gp c 6
 | .make c=>gp c 6
 | .lam j=>n6 j nN
noncomputable def Ds.no:Ds->Bool
 | .fn _=>false
 |_=>true
theorem AO: ∀{l:List Nat},n6 k l=true->k∈l
 |[],h=>bI h
 |a::l,h=>by
  cases q:bo a k with
  |true=>exact cq q▸bj
  |false=>exact cb _ (AO (by rw [show n6 k (a::l)=cond (bo a k) true (n6 k l) from rfl,q] at h;exact h))
theorem Gn:QL.all Ds.ok=true:=by kernel_rfl
theorem TP:[Ds.make 0,.heap 1,.heap 2,.heap 3,.heap 4,.heap 5,.lam 101,.lam 102,.lam 103,.lam 104].all Ds.no=true:=by kernel_rfl
theorem Gp:jW=QL.map Ds.f:=by kernel_rfl
theorem ck:(AN 0 QL).map (λp=>p.2.c1 p.1)=(AN 0 QL).map λp=>p.2.c2 p.1:=by kernel_rfl
theorem Ye:nN.map (λk=>(cz k,vq (rj k),eZ (rj k).names,distinct ((PD k).map sl)))=nN.map λk=>(some (⟨[],TM k,none,[],[],none,[]⟩,(CR k).2.1,rj k),true,true,true):=by kernel_rfl
theorem cl1(P:abK):(cc 6).map (λc=>(ko P (pK P c) "__init__",RM (bq P (xu c).1)))=(cc 6).map λc=>(some (.ref (xu c).1),.type "function"):=by kernel_rfl
theorem Kv(h:aU l k=some d):(n+k,d)∈AN n l:=by
 induction l generalizing n k with
 |nil=>exact bw h
 |cons a l ih=>induction k with
  |zero=>rcases h with _|_;exact bj
  |succ k=>rw [show n+(k+1)=n+1+k by rw [hY];rfl];exact cb _ (ih h)
theorem cI:aH d l c∈d::l:=by
 induction l generalizing c with
 |nil=>exact bj
 |cons a l ih=>induction c with
  |zero=>exact cb _ bj
  |succ c=>exact (de.mp (ih (c:=c))).elim (λe=>de.mpr (.inl e)) λh=>cb _ (cb _ h)
theorem wY(c:Nat):xu c∈dc:=(de.mp cI).elim (λe=>de.mpr (.inl e)) λh=>cb _ (lh _ h)
theorem TQ(h:Ds.fn r∈QL):r∈dc:=by
 rcases w0.mp h with h|h
 ·obtain ⟨a,ha,e⟩:=dy.mp h;cases e;exact cb _ (mI _ ha)
 ·exact bI (fi.mp TP _ h)
structure Gq(k:Nat)(b:Bool)(r:kY)(v:Value):Prop where
 v:pq k=v
 l:cz k=none
 hb:gU b (uU r) false (C3 r) (Ku b r).m
 ps:bC (uU r) ((Gk r).map (λU=>U.arg))=some (QK r)
theorem Gr{k:Nat}{b:Bool}{r:kY}{v:Value}(h:(⟨pq k,(cz k).isSome,(Ku b r).e,dE,bC (uU r) ((Gk r).map (λU=>U.arg))⟩:Ck)=⟨v,false,C3 r,dE,some (QK r)⟩):Gq k b r v:=
 ⟨congrArg (λU=>U.v) h,Option.not_isSome_iff_eq_none.mp (by rw [show (cz k).isSome=false from congrArg (λU=>U.l) h];decide),(congrArg (λU=>U.es) h:(Ku b r).e=C3 r)▸(Ku b r).ok,congrArg (λU=>U.ps) h⟩
section
variable{S:St}{A:Around}{n:Nat}{cf:CF}{z:Zh S}{k:Nat}{vs:List V}{x:Value}{xs:List Value}{R:ab6->Shared->Prop}
theorem PE(h:cz k=none)(hv:az z.y (.ou k caps) x):False:=by
 obtain ⟨_,_,h1,_⟩:=hv;induction h1 with|mk a b c d=>exact bw (h.symm.trans d)
theorem Gq.arg{v:Value}(I:Gq k b r v)(hc:Callee z.y k vs x xs):x=v/\aB z.y vs xs:=by
 rcases hc with ⟨e,_,h⟩|⟨caps,ws,_,hv,_⟩
 ·exact ⟨e.trans I.v,h⟩
 ·exact (PE I.l hv).elim
theorem AP(P:abK)(h:c∈cc 6):pY P c (xu c).1:=by
 have h1:=ai (cl1 P) h;have h2:=ai (d1 P) (wY c);exact .mk (congrArg (λU=>U.1) h1) h2 ((congrArg RM h2).symm.trans (congrArg (λU=>U.2) h1))
variable(hB: ∀a o,bq S.P a=some o->z.y.J a=some o)(hc:Callee z.y k vs x xs)
include hB hc
theorem PF(K:oi S A n cf z.y)(K': ∀c x,oi S (A.under (.builtin "type.__call__" ⟨.ref (dM c)::x,[]⟩)) n cf z.y)(hd:d∈QL)(e:d.c1 k=d.c2 k)(w:lg z (iJ d.f cf vs z.H) R):codeAny S.M A (.call x ⟨xs,[]⟩) R z.s:=by
 induction d with
 |fn r=>
  have I:=Gr e;obtain ⟨rfl,hv⟩:=I.arg hc;have hr:=TQ hd;exact yz (uJ hr) I.ps hv K (AM hr hB) I.hb w
 |heap c=>
  have I:=Gr e;obtain ⟨rfl,hv⟩:=I.arg hc;exact Cc (uJ (wY c)) I.ps hv (AP _ (rp.mpr (g0.mp (fi.mp Gn _ hd)))) (AM (wY c) hB) (K' c) I.hb w
 |make c=>
  have I:=Gr e;obtain ⟨rfl,hv⟩:=I.arg hc;exact Cd (uJ (wY c)) I.ps hv (AP _ (rp.mpr (g0.mp (fi.mp Gn _ hd)))) (AM (wY c) hB) (K' c) I.hb w
 |lam j=>
  have hj:j∈nN:=AO (fi.mp Gn _ hd);have h:=ai Ye hj;have ej:k=j:=cq (congrArg Ck.l e);subst ej;rcases hc with ⟨e1,⟨f,e2⟩,_⟩|⟨caps,ws,rfl,hv,hw⟩
  ·exact nomatch e2.symm.trans (e1.trans (congrArg Ck.v e))
  ·exact Ft K ⟨congrArg (λU=>U.1) h,congrArg (λU=>U.2.1) h,congrArg (λU=>U.2.2.1) h,congrArg (λU=>U.2.2.2) h,congrArg Ck.ps e⟩ (have q:(Gm k).e=(CR k).2.1:=congrArg Ck.e e;q▸(Gm k).ok) hv hw w
end
theorem PG(h:cz k=some q):eh 1000 k=false:=by
 unfold cz at h;split at h<;>first|rfl|exact bw h
theorem TR(h:pq k=.ref f):eh 1000 k=false:=by
 unfold pq at h;cases q:aU WU k with
 |none=>rw [q] at h;cases h
 |some a=>
  have l:k<101:=(show WU.length=101 by kernel_rfl)▸dz q;cases e:eh 1000 k with
  |true=>exact absurd (bt (aw e) (kp l)) (by decide)
  |false=>rfl
theorem sD{vs:List V}(hc:Callee y k vs x xs):eh 1000 k=false:=by
 rcases hc with ⟨e,⟨f,ef⟩,_⟩|⟨_,_,_,⟨_,_,h,_⟩,_⟩
 ·exact TR (e.symm.trans ef)
 ·induction h with|mk a b c d=>exact PG d
theorem Gs(n:Nat):Bi (run jW n):=λo vs H=>by
 show cond (eh 1000 (1000+o)) (La (1000+o-1000) vs H) _=_;rw [Nat.ble_eq.mpr (cw _ _),Nat.add_sub_cancel_left];rfl
theorem PI{S:St}: ∀n,M1 S n (run jW n):=by
 intro n;induction n with
 |zero=>
  refine ⟨Gs 0,λA z U k vs x xs R hc w=>?_⟩;have w:lg z (cond (eh 1000 k) (La (k-1000) vs z.H) .bad) R:=w;rw [sD hc] at w;exact w.fits.elim
 |succ n ih=>
  refine ⟨Gs (n+1),λA z hC k vs x xs R hc w=>?_⟩;have w:lg z (cond (eh 1000 k) (La (k-1000) vs z.H) (rB (aU jW k) λf=>iJ f (run jW n) vs z.H)) R:=w;rw [sD hc] at w;refine lg.opt w λf q w=>?_;rw [Gp,iB] at q;refine ae λaA=>?_;obtain ⟨d,q1,rfl⟩:=map_some q;refine aA ?_;have e:=ai ck (Kv (n:=0) q1);rw [fb] at e;have h1:A.depth+1+3*n<=900:=bt (by rw [Pt];lia) hC.depth;have h2:A.units+3+16*n<=9000:=bt (by rw [Pt];lia) hC.units;exact PF z.I.base hc ⟨ih,hC.bare,hC.hd,h1,h2,hC.frames⟩ (λU U=>⟨ih,hC.bare,hC.hd,bt (by rw [Pt];show A.depth+1+1+3*n<=_;lia) hC.depth,bt (by rw [Pt];show A.units+1+3+16*n<=_;lia) hC.units,hC.frames⟩) (dQ q1) e w
theorem CS(h:bq P a=some o):(hT P).get? a=some o/\eL a=false:=by
 unfold bq at h;cases q:(QY P).get a with
 |none=>simp only [q] at h;exact bw (h)
 |some x=>
  simp only [q] at h;cases q1:eL a with
  |true=>rw [q1] at h;exact bw (h)
  |false=>
   rw [q1] at h;cases q2:aT a 1141 with
   |false=>rw [q2] at h;exact bw (h)
   |true=>
    rw [q2] at h;cases q3:x.isFreed with
    |true=>rw [q3] at h;exact bw (h)
    |false=>
     rw [q3] at h;rcases h with _|_;refine ⟨?_,rfl⟩;have e:(hT P).objs[a]?=some o:=by
      unfold hT;rw [absHeap_at,if_pos (aZ q2),q];rfl
     unfold Heap.get?;rw [e];obtain ⟨c,d,dt,sl⟩:=o;rcases dt with _|_<;>first|rfl|rcases q3 with _|_
def Yg(o:Option Obj):Obj:=⟨.type "code",Vh o,.fields (VH o),Nv o⟩
noncomputable def PJ:Value->Bool| .int .. =>true|_=>false
noncomputable def TS:Value->Bool| .bool _=>true|_=>false
theorem AQ(h:PJ x=true): ∃i t,x=.int i t:=by rcases x with _|_<;>first|exact ⟨_,_,rfl⟩|exact bI h
theorem Kw(h:TS x=true): ∃b,x=.bool b:=by rcases x with _|_<;>first|exact ⟨_,rfl⟩|exact bI h
section
variable(P:abK)
def tO(q:Addr×Addr×Str):Option Obj:=(hT P).get? q.1
def tV(q:Addr×Addr×Str):Array Value:=VH (tO P q)
theorem t1:fX.map (tO P)=fX.map λq=>some (Yg (tO P q)):=by kernel_rfl
theorem t2:fX.map (λq=>(tV P q)[11]?)=fX.map λq=>some (.ref q.2.1):=by kernel_rfl
theorem t3:fX.map (λq=>(II ((tV P q).getD 18 .none),PJ ((tV P q).getD 7 .none),TS ((tV P q).getD 9 .none),PJ ((tV P q).getD 10 .none)))=fX.map λU=>(true,true,true,true):=by kernel_rfl
theorem t5:fX.map (λq=>(bo q.1 q.2.1,eL q.2.1,eL q.1,aT q.2.1 1141))=fX.map λU=>(false,true,false,true):=by kernel_rfl
theorem t4:fX.map (λq=>(hT P).get? q.2.1)=fX.map λU=>some {cls:=.none,data:=.fields #[]}:=by kernel_rfl
end
theorem LY(hq:q∈fX):(hT P).IsCode q.1 q.2.1 #[]/\(hT P).TableAt q.1 q.2.1 #[]:=by
 have h:=ai (t3 P) hq;refine ae λaA=>?_;obtain ⟨f,ft,e1⟩:=tF (congrArg (λU=>U.1) h);obtain ⟨g,gt,e2⟩:=AQ (congrArg (λU=>U.2.1) h);obtain ⟨b,e3⟩:=Kw (congrArg (λU=>U.2.2.1) h);obtain ⟨x,xt,e4⟩:=AQ (congrArg (λU=>U.2.2.2) h);refine aA ?_;have n:bo q.1 q.2.1=false:=congrArg (λU=>U.1) (ai t5 hq);have e0:=ai (t2 P) hq;exact ⟨⟨_,_,f,ft,g,gt,b,x,xt,_,ai (t1 P) hq,rfl,by rw [vr];exact congrArg (λU=>aaM U .none) e0,e1,e2,e3,e4,ai (t4 P) hq,rfl,trivial,λe=>by rw [e,lL] at n;cases n⟩,⟨_,_,ai (t1 P) hq,rfl,rfl,e0⟩,ai (t4 P) hq⟩
theorem LZ(hq:q∈fX):eL q.2.1=true/\eL q.1=false/\aT q.2.1 1141=true:=by
 have h:=ai t5 hq;exact ⟨congrArg (λU=>U.2.1) h,congrArg (λU=>U.2.2.1) h,congrArg (λU=>U.2.2.2) h⟩
theorem zp(h:eL a=true): ∃q∈fX,a=q.2.1:=by
 have e:([278,259,949,968,1017,1089,1111,1130]:List Nat)=fX.map (λU=>U.2.1):=by kernel_rfl
 unfold eL at h;rw [e] at h;refine ae λaA=>?_;obtain ⟨x,hx,h⟩:=ph.mp h;obtain ⟨q,hq,rfl⟩:=dy.mp hx;refine aA ?_;exact ⟨q,hq,cq h⟩
def y0(s:Shared):Wd:=⟨λa=>cond (eL a) (some .tab) ((s.heap.get? a).map .kept),λU=>none⟩
theorem TU(h:(y0 s).W a=some x):(∃q∈fX,a=q.2.1/\x=.tab)\/ ∃o,s.heap.get? a=some o/\x=.kept o:=by
 change cond (eL a) _ _=_ at h;cases q:eL a with
 |true=>
  rw [q] at h;obtain ⟨x,hx,e⟩:=zp q;exact .inl ⟨x,hx,e,(ag h).symm⟩
 |false=>
  rw [q] at h;obtain ⟨o,ho,e⟩:=map_some h;exact .inr ⟨o,ho,e.symm⟩
theorem Ky(h:s.heap.get? a=some o)(n:eL a=false):(y0 s).J a=some o:=by
 show bR (cond (eL a) _ _)=_;rw [n,h];rfl
section
variable{w:abR}{s:Shared}(hk: ∀b o,(hT w.params).get? b=some o->s.heap.get? b=some o)
include hk
theorem Yh(hg:s.gens= #[]):InvH ⟨w,s.os⟩ (y0 s) [] [] s where
 own a x h:=by
  rcases TU h with ⟨q,hq,rfl,rfl⟩|⟨o,ho,rfl⟩
  ·exact ⟨_,hk _ _ (ai (t4 w.params) hq)⟩
  ·exact ho
 len _ _ h:=bw h
 obs x _ h:=by rcases x with _|_<;>exact bw h
 base a o h:=(CS h).elim λh n=>Ky (hk _ _ h) n
 tabs q hq:=by
  obtain ⟨h1,h2⟩:=LY (P:=w.params) hq;obtain ⟨b1,b2,_⟩:=LZ hq;exact .mk (by show cond (eL _) _ _=_;rw [b1];rfl) (Ky (hk _ _ (ai (t1 w.params) hq)) b2) (h1.keeps hk) (h2.keeps hk) λpos c h=>bw h
 gens:=hg
 os:=rfl
theorem Yi{z:Zh ⟨w,s.os⟩}(l:Le (y0 s) z.y):OldK s.heap z.s.heap:=by
 have key: ∀b o,s.heap.get? b=some o->asItWas s.heap z.s.heap b o/\ ∃o',z.s.heap.get? b=some o':=λb o hb=>by
  cases q:eL b with
  |false=>
   have:=z.I.own _ _ (aJ (l.j b o (Ky hb q)))
   exact ⟨.inl this,o,this⟩
  |true=>
   obtain ⟨x,hx,rfl⟩:=zp q;have h2:=(LY hx).2.keeps hk;induction z.I.tabs x hx with|@mk _ ps _ _ _ t3 _=>
   cases ag (hb.symm.trans h2.2);exact ⟨.inr (.inl ⟨h2.isCodeTable,rfl, #[],ps,rfl,by rw [t3.2];simp⟩),_,t3.2⟩
 exact ⟨λb o h=>(key b o h).1,λb o h=>(key b o h).2⟩
theorem Gu(h:IntsAre its ns):aB y (ns.map V.int) its:=by
 induction h with
 |nil=>rfl
 |cons n t h ih=>exact ⟨_,_,rfl,⟨t,rfl⟩,ih⟩
theorem Gv(hN:N<=190)(PK:run jW N 91 [.list (ns.map V.int)] []=.ok (.val (.bool true)) H')(hg:s.gens= #[])(hl:s.heap.IsList l its.toArray)(hi:IntsAre its ns)(hl1:1141<=l):
  wpAny (abJ PT w) adb (call (.ref 1140) [.ref l]) (λv s'=>v=.bool true/\OldK s.heap s'.heap/\s'.os=s.os/\ad5 s'.gens) (λU U=>False) s:=by
 refine ae λaA=>?_;obtain ⟨o,ho,hc,ep,hd⟩:=hl;refine aA ?_;have nt:eL l=false:=by
  cases q:eL l with
  |false=>rfl
  |true=>
   obtain ⟨x,hx,rfl⟩:=zp q;exact absurd hl1 (Nat.not_le.mpr (aZ (LZ hx).2.2))
 have hf:dT 1140=pq 91:=by kernel_rfl
 refine wpAny_call ((PI N).ok adb ⟨y0 s,[],s,Yh hk hg⟩ ⟨λa x h=>?_,rfl,?_,?_,⟨[],rfl,λe he=>nomatch he⟩⟩ 91 _ _ _ _ (.inl ⟨hf,⟨1140,rfl⟩,(show aB (y0 s) [.list (ns.map V.int)] [.ref l] from ⟨_,_,rfl,⟨_,.mk (Ky ho nt) hc hd,Gu hk hi⟩,rfl⟩)⟩) ⟨by rw [PK];trivial,λr z' v e l U g=>?_,λk w z' v e=>by rw [PK] at e;cases e⟩)
 ·rcases TU h with ⟨q,hq,rfl,rfl⟩|⟨o,ho,rfl⟩<;>rfl
 ·show 1+300+3*N<=900;lia
 ·show 4+16*N<=9000;lia
 ·rw [PK] at e;cases e;exact ⟨g,Yi hk l,z'.I.os,ad5.of_eq z'.I.gens⟩
end
end MP
end Mine.Lake
end
section
namespace Mine.Lake
namespace MP
open PySem PySem.W PyProof.Rows PySem.Calls
theorem zq{R:ab6->Shared->Prop}(z:s.asleep)
  (h:wpAny (abJ prog w) adb t (λfin s'=> ∃f,fin=.done f/\R (.ok f) s'/\leftWithCleanup s'.gens=false) (λe s'=>R (.error e) s'/\leftWithCleanup s'.gens=false) s):
  ∃n r s' s'',runN (denote acE) prog w n s ⟨t,.builtin "claim.caller" {},default,[]⟩=.halted (adH r) s'/\
   schedN (denote acE) prog w n (.single s ⟨t,.builtin "claim.caller" {},default,[]⟩)=.halted (adH r) s'/\s'.forget=s''.forget/\R r s'':=by
 have hw:=h _ default caller_in ⟨by decide+kernel,λq hq=>(nomatch hq)⟩;refine ae λaA=>?_;obtain ⟨n,r,x,y,h1,h2,h3,h4⟩:=wp_halts_full (M:=abJ prog w) (R:=R) z (H0 _ _ _ (λfin U U k=>by
  obtain ⟨f,rfl,k⟩:=k;exact k) (λU U U k=>k) _ _ hw)
 refine aA ?_;exact ⟨n,r,y,x,h2,h1,h3,h4⟩
inductive ZO(c:ClaimW)(tree:List Value->Sem Fin)(w:abR)(s:Shared)(args:List WData)(ord:List ab3->List ab3)(kept:Heap->Prop):Prop
 |mk (vs:List Value) (s₁:Shared) (n:Nat) (r:ab6) (a:Shared):layAllW c.records (ad6 s.heap) w.params ord args s=some (vs,s₁)->
   schedN (denote acE) c.prog w n (.single s₁ ⟨tree vs,.builtin "claim.caller" {},default,[]⟩)=.halted (adH r) a->c.Ends s args vs s₁ r a->kept a.heap->a.heap.life=s.heap.life->a.rest=s.rest->ZO c tree w s args ord kept
theorem CT(z:s.asleep)
  (spec: ∃vs s₁,layAllW c.records (ad6 s.heap) w.params ord args s=some (vs,s₁)/\
   wpAny (abJ c.prog w) adb (tree vs) (λfin s'=> ∃f,fin=.done f/\c.Ends s args vs s₁ (.ok f) s'/\s'.os=s.os/\ad5 s'.gens/\kept s'.heap) (λU U=>False) s₁):ZO c tree w s args ord kept:=by
 refine ae λaA=>?_;obtain ⟨vs,s₁,e1,h⟩:=spec;have r1:=layAllW_rest _ _ _ e1;obtain ⟨n,r,a,b,h1,h2,h3,h4,h5,h6⟩:=zq (R:=λr s'=>c.Ends s args vs s₁ r s'/\s'.os=s.os/\kept s'.heap) (Fh r1.2.2.2 z)
  (wpAny_mono h (λfin s' h=>h.elim λf h=>⟨f,h.1,⟨h.2.1,h.2.2.1,h.2.2.2.2⟩,leftWithCleanup_false_of_bare h.2.2.2.1⟩) λU U h=>h.elim)
 refine aA ?_;have f:=Shared.forget_eq h3;exact .mk vs s₁ n r a e1 h2 (h4.congr f.1) (by rw [f.1];exact h6) ((runN_life _ _ _ h1).trans r1.2.2.2) (abe (f.2.2.2.1.trans h5))
theorem zu{c:ClaimW}{tree:List Value->Sem Fin}(z:s.asleep)(hg:s.gens= #[])
  (spec: ∀args,c.pre args=true->Md args=true-> ∀ord:List ab3->List ab3,(∀l,(ord l).Perm l)-> ∃vs s₁,layAllW c.records (ad6 s.heap) w.params ord args s=some (vs,s₁)/\
   wpAny (abJ c.prog w) adb (tree vs) (λfin s'=> ∃f,fin=.done f/\c.Ends s args vs s₁ (.ok f) s'/\s'.os=s.os/\ad5 s'.gens/\kept s'.heap) (λU U=>False) s₁):
  c.CallFrom (λvs=>⟨tree vs,.builtin "claim.caller" {},default,[]⟩) w free gens kept s:=λargs hp hl ord ho=>by
 induction CT z (spec args hp hl ord ho) with
 |mk vs s₁ n r a e1 h2 h4 h6 life rest=>
  exact ⟨vs,s₁,e1,n,_,a,h2,h4.imp (λh=>h.imp λv h=>⟨congrArg adH h.1,h.2.1,h.2.2.1,h.2.2.2.1,λb o y U=>h.2.2.2.2.1 b o y,h.2.2.2.2.2⟩) (λh=>h.imp λe h=>h.imp λob h=>h.imp λcl h=>⟨congrArg adH h.1,h.2.1,h.2.2.1,h.2.2.2.1,h.2.2.2.2.1,λb o y U=>h.2.2.2.2.2 b o y⟩),λU i x hx=>by rw [hg] at hx;exact bw hx,h6,congrArg (λU=>U.seen) life,rest⟩
theorem zv{vs:List Value}{Q:Fin->Shared->Prop}(h:s.heap.Ns abN mg)(hm:mg nm=some (.ref 1140))
  (k:wpAny (abJ PT w) adb (call (.ref 1140) vs) (λv s'=>Q (.done (.ret v)) s') E s):wpAny (abJ PT w) adb (callStub nm vs).cur Q E s:=
 wpAny_bind (Kl (wpAny_nsGet h (by rw [hm];exact wpAny_bind (wpAny_mono k (λU U x=>wpAny_pure x) λU U x=>x))))
def uK:Prop:= ∀ns:List Int,ns.length<=63-> ∃H',run jW 190 91 [.list (ns.map V.int)] []=.ok (.val (.bool true)) H'
set_option tactic.hygienic true in
theorem CU(L:uK)(w:abR)(s₀ s:Shared)(args:List WData)(vs:List Value)(as:List Addr)(hk: ∀b o,(hT w.params).get? b=some o->s.heap.get? b=some o)(hg:s.gens= #[])
  (hpre:RR.toRowW.claim.pre args=true) (hlay:Md args=true) (X:Laid RR.records w s₀ s args vs as) (h0:s₀.heap=hT w.params):
  wpAny (abJ PT w) adb (call (.ref 1140) vs) (λv s'=>v=.bool true/\OldK s.heap s'.heap/\s'.os=s.os/\ad5 s'.gens) (λU U=>False) s:=by
 have hrd:=X.reads;have hwl:WellAll w.params s.heap vs args:=by
  obtain ⟨ord,hord,hl⟩:=X.laid;exact well_layAllW hord args s₀ _ hl _ λU U e=>e
 have hge: ∀a∈as,1141<=a:=λa ha=>by
  have h1:=(X.within.2.2 a ha).1;rw [h0,HF] at h1;exact h1
 have hlo: ∀a∈as,(a==adk)=false:=λa ha=>by
  have h1:=hge a ha;exact beq_eq_false_iff_ne.mpr λe=>by subst e;exact absurd h1 (by decide)
 wrow_args hpre hlay hrd hwl hlo
 rename_i ns _ _ _ _ _ _ _ l its _ hl _ _ r0 hi _ _ _
 obtain ⟨H',hr⟩:=L ns (by lia);refine Gv hk (eb _) hr hg hl hi (hge _ (lh _ ?_));cases r0;exact bj
theorem Hs(H:uK)(said:RR.wellSaid=true):RR.Holds:=by
 refine ⟨said,lA,⟨row_bare,xA,by rfl⟩,lA.witness,λw=>⟨(zM w).1,λs' hs'=>?_⟩⟩;refine ae λaA=>?_;obtain ⟨hsame,hu,ha,hap,hm⟩:=frees_parts (eJ.mp De).1;have k6:=(eJ.mp De).2;obtain ⟨s₀,hf,hg0,s,hT',hz,hgens,wZ⟩:=(zM w).2 s' hs';refine aA ?_;have hi:=ident_freeW hu ha hap;have hwi:RR.toRowW.claim.within=[]:=List.isEmpty_iff.mp k6;have hns:s.heap.isNs abN=true:=by rw [wZ];exact K6 _
 refine ⟨s₀,hf,hg0,s,hT',?_,?_,?_,?_⟩
 ·intro n hn
  have:n=S "law":=by
   rw [<-u7];exact dC.mp hn
  subst this;exact MC _ _ wZ.symm
 ·intro x hx;exact (nomatch hx)
 ·intro x hx;exact (nomatch hx)
 ·refine zu (c:=RR.toRowW.claim) hz hgens λargs hpre hlay ord hord=>?_;refine ae λb8=>?_;obtain ⟨⟨vs,s₁⟩,hlaid⟩:=xf.mp (layAllW_isSome (P:=w.params) (R:=RR.records) (cl:=ad6 s.heap) (ord:=ord) (λc hc=>(nomatch hc)) args RR.toRowW.args s (pre_splitW hpre).1);have keeps:=layAllW_keeps _ _ _ hlaid;have hal:=layAllW_rest _ _ _ hlaid;obtain ⟨as,hrd,hin,hold⟩:=reads_layAllW hord _ _ _ hlaid hlay s₁.heap (λU U e=>e);refine b8 ?_;have L:Laid RR.records w s s₁ args vs as:=⟨⟨ord,hord,hlaid⟩,hrd,hin,hold,keeps,hal.1.trans hgens,hal.2.2.1⟩;have hc:=CU H w s s₁ args vs as (λb o e=>keeps b o (wZ▸e)) (hal.1.trans hgens) hpre hlay L wZ;have hnm:s₁.heap.Ns abN (s.heap.nsMap abN):=(Heap.Ns.of_isNs hns).keeps keeps;have hlm:s.heap.nsMap abN RR.name=some (.ref 1140):=by rw [wZ,u7];exact zN _
  refine ⟨vs,s₁,hlaid,zv hnm hlm (wpAny_mono hc (λv s' g=>⟨_,rfl,?_⟩) λU U x=>x.elim)⟩;refine ae λjT=>?_;obtain ⟨rfl,g1,g2,g3⟩:=g;refine jT ?_;have hg:GoodWG RR.toRowW.claim (ad6 s.heap) (ExcName.means s.heap) args s₁ (.ok (.ret (.bool true))) s':=
   ⟨.inl ⟨_,.bool true,[],rfl,λU=>rfl,ReadsW.bool _,HM _,λU=>⟨mB,λa ha=>(nomatch ha)⟩⟩,g1,g2,g3⟩
  have z:=hg.laid (c:=RR.toRowW.claim) hsame hwi hi L;exact ⟨z.1,z.2.1,z.2.2,λq=>(nomatch q)⟩
end MP
end Mine.Lake
end
section
namespace Mine.Lake
namespace MP
theorem jP(h:aU jW k=some f):iE f.body:=by
 rw [Gp,iB] at h;obtain ⟨d,_,rfl⟩:=map_some h;induction d with
 |lam j=>exact fB (Kh (Gm j).nt) iF
 |_=>exact (Ku _ _).nt
def rn(n:Nat):CF:=run jW n
noncomputable def mO.r:mO->Res
 | .ok r H=>.ok r H
 | .exc k w H=>.exc k w H
 | .bad=>.bad
def susp(S:List Nat)(n:Nat)(cf:CF):CF:=λk vs H=>cond (n6 k S) (.ask n k vs H mO.r) (DB cf k vs H)
noncomputable def oU(S:List Nat):Nat->CF
 |0=>λU U U=>.bad
 |n+1=>λk vs H=>rB (aU jW k) λf=>iJ f (susp S n (oU S n)) vs H
def rs(S:List Nat)(n:Nat):CF:=susp S n (oU S n)
theorem PM{vs:List V}:(La o vs H).int q=La o vs H:=by
 unfold La;induction Za (Dj vs 0) with
 |none=>exact nj λU=>nj λU=>nj λU=>rfl
 |some l=>exact nj λU=>rfl
theorem uL{c1 c2:CF}{vs:List V}(h:(c1 k vs H).int q=c2 k vs H):(DB c1 k vs H).int q=DB c2 k vs H:=by
 unfold DB;cases eh 1000 k
 ·exact h
 ·exact PM
theorem zw{c1 c2:CF}(hc:Hr q c1 c2)(k:Nat)(vs:List V)(H:Hp):(rB (aU jW k) λf=>iJ f c1 vs H).int q=rB (aU jW k) λf=>iJ f c2 vs H:=by
 cases e:aU jW k with
 |none=>rfl
 |some f=>exact (nfn (jP e) hc vs H).e
theorem Gw(q:Nat->CF)(n:Nat):Hr q (rn n) (rn n):=by
 induction n with
 |zero=>exact λk vs H=>uL rfl
 |succ n ih=>exact λk vs H=>uL (zw ih k vs H)
theorem Kz{vs:List V}:(rn n k vs H).O9.r=rn n k vs H:=by
 have h: ∀x:Res,(x.int rn).O9.r=x.int rn:=λx=>by
  induction x with
  |ask n k vs H f ih=>exact ih _
  |_=>rfl
 rw [<-Gw rn n k vs H];exact h _
theorem zx(S:List Nat)(n:Nat):Hr rn (rs S n) (rn n):=by
 have sp: ∀m (_:Hr rn (oU S m) (DA jW DB m)),Hr rn (rs S m) (rn m):=λm h k vs H=>by
  show (cond (n6 k S) _ _:Res).int rn=_;cases n6 k S
  ·exact uL (h k vs H)
  ·show ((rn m k vs H).O9.r).int rn=_;rw [Kz];exact Gw rn m k vs H
 refine sp n ?_;induction n with
 |zero=>exact λU U U=>rfl
 |succ n ih=>exact λk vs H=>zw (sp n ih) k vs H
noncomputable def Res.q:Res->Option (Nat×Nat×List V×Hp)
 | .ask n k vs H _=>some (n,k,vs,H)
 |_=>.none
noncomputable def Res.to(x:Res)(a:mO):Res:=match x with
 | .ask _ _ _ _ f=>f a
 |x=>x
noncomputable def Out.q{α:Type}:Out α->Option (Nat×Nat×List V×Hp)
 | .ask n k vs H _=>some (n,k,vs,H)
 |_=>.none
noncomputable def Out.to{α:Type}(x:Out α)(a:mO):Out α:=match x with
 | .ask _ _ _ _ f=>f a
 |x=>x
section
variable{n k:Nat}{vs:List V}{H H':Hp}{r:R}{w:V}{i:Nat}
theorem uM{x o:Res}(e:x.q=some (n,k,vs,H))(h:rn n k vs H=a.r)(g:(x.to a).int rn=o):x.int rn=o:=by
 induction x with
 |ask n k vs H f=>rcases e with _|_;show (f (rn _ _ _ _).O9).int rn=_;rw [h];rcases a with _|_<;>exact g
 |_=>exact bw e
theorem st{x o:Res}(h:rn n k vs H=.ok r H')(g:(x.to (.ok r H')).int rn=o)(e:autoParam (x.q=some (n,k,vs,H)) Mine.Lake.MP.K8._auto_1):x.int rn=o:=uM (a:=.ok r H') e h g
theorem stx{x o:Res}(h:rn n k vs H=.exc i w H')(g:(x.to (.exc i w H')).int rn=o)(e:autoParam (x.q=some (n,k,vs,H)) Mine.Lake.MP.K8._auto_1):x.int rn=o:=uM (a:=.exc i w H') e h g
theorem ok{x:Res}(e:autoParam (x=.ok r H) Mine.Lake.MP.K8._auto_1):x.int rn=.ok r H:=by rw [e];rfl
theorem ex{x:Res}(e:autoParam (x=.exc i w H) Mine.Lake.MP.K8._auto_1):x.int rn=.exc i w H:=by rw [e];rfl
def Tq(k:Nat)(vs:List V)(v:V):Prop:= ∀n H,rn n k vs H=.ok (.val v) H
noncomputable def Res.tv(x:Res)(v:V):Res:=match x with
 | .ask _ _ _ H f=>f (.ok (.val v) H)
 |x=>x
noncomputable def Res.kv:Res->Option (Nat×List V)
 | .ask _ k vs _ _=>some (k,vs)
 |_=>.none
theorem tq{x o:Res}(h:Tq k vs v)(g:(x.tv v).int rn=o)(e:autoParam (x.kv=some (k,vs)) Mine.Lake.MP.K8._auto_1):x.int rn=o:=by
 induction x with
 |ask n k vs H f=>rcases e with _|_;exact st (h n H) g rfl
 |_=>exact bw e
theorem go(S:List Nat)(g:(oU S n k vs H).int rn=o)(h:autoParam (eh 1000 k=false) hZ._auto_4):rn n k vs H=o:=by
 have e:=zx S n
 have:(oU S n k vs H).int rn=DA jW DB n k vs H:=by
  induction n with
  |zero=>rfl
  |succ n=>exact zw (zx S n) k vs H
 show DB (DA jW DB n) k vs H=o;unfold DB;rw [h, <-g,this];rfl
end
section
variable{α:Type}{n k:Nat}{vs:List V}{H H':Hp}{ρ:Env}{a:α}{r:R}{w:V}{i:Nat}
theorem AR{x o:Out α}{a:mO}(e:x.q=some (n,k,vs,H))(h:rn n k vs H=a.r)(g:(x.to a).int rn=o):x.int rn=o:=by
 induction x with
 |ask n k vs H f=>rcases e with _|_;show (f (rn _ _ _ _).O9).int rn=_;rw [h];rcases a with _|_<;>exact g
 |_=>exact bw e
theorem sto{x o:Out α}(h:rn n k vs H=.ok r H')(g:(x.to (.ok r H')).int rn=o)(e:autoParam (x.q=some (n,k,vs,H)) Mine.Lake.MP.K8._auto_1):x.int rn=o:=AR (a:=.ok r H') e h g
theorem L4{x:Out α}(e:autoParam (x=.ok a ρ H) Mine.Lake.MP.K8._auto_1):x.int rn=.ok a ρ H:=by rw [e];rfl
noncomputable def Out.tv(x:Out α)(v:V):Out α:=match x with
 | .ask _ _ _ H f=>f (.ok (.val v) H)
 |x=>x
noncomputable def Out.kv:Out α->Option (Nat×List V)
 | .ask _ k vs _ _=>some (k,vs)
 |_=>.none
theorem jX{x o:Out α}(h:Tq k vs v)(g:(x.tv v).int rn=o)(e:autoParam (x.kv=some (k,vs)) Mine.Lake.MP.K8._auto_1):x.int rn=o:=by
 induction x with
 |ask n k vs H f=>rcases e with _|_;exact sto (h n H) g rfl
 |_=>exact bw e
theorem Gx(S:List Nat)(hm:Nt m)(g:(m (rs S n) ρ H).int rn=o):m (rn n) ρ H=o:=(hm _ _ _ (zx S n) ρ H).e.symm.trans g
end
end MP
end Mine.Lake
end
section
namespace Mine.Lake
namespace MP
namespace PL
open PySem
theorem pt{i:Decidable p}(h:p):@decide p i=true:=decide_eq_true h
theorem pf{i:Decidable p}(h: ¬p):@decide p i=false:=decide_eq_false h
section
variable{n:Nat}{H:Hp}{a b:Int}{v:Bool}
theorem TV(h:decide (a=b)=v):Tq 1004 [.int a,.int b] (.bool v):=λU U=>h▸rfl
theorem ZP(h:decide (a=b)=v):Tq 1005 [.int a,.int b] (.bool (cond v false true)):=λU U=>h▸rfl
theorem xw(h:decide (a<b)=v):Tq 1006 [.int a,.int b] (.bool v):=λU U=>h▸rfl
theorem AS(h:decide (a<=b)=v):Tq 1007 [.int a,.int b] (.bool v):=λU U=>h▸rfl
theorem tgt(h:decide (b<a)=v):Tq 1008 [.int a,.int b] (.bool v):=λU U=>h▸rfl
theorem Yj(h:decide (b<=a)=v):Tq 1009 [.int a,.int b] (.bool v):=λU U=>h▸rfl
theorem CV(h:c=true):rB (gg c (some (V.int z))) (λv=>.ok (.val v) H)=.ok (.val (.int z)) H:=by rw [h];rfl
def Bd(k:Nat)(i:Int):Prop:=i.natAbs<10^k
variable{k m:Nat}
theorem Bd.mono(h:Bd k a)(q:k<=m):Bd m a:=ey h (Nat.pow_le_pow_right (aw rfl) q)
theorem Bd.C5(h:s<k):Bd k (10^s):=by
 unfold Bd;rw [Int.natAbs_pow];exact XP (aw rfl) h
theorem Bd.mul(h:Bd k a)(h':Bd m b):Bd (k+m) (a*b):=by
 unfold Bd;rw [abm,Nat.pow_add];exact Nat.mul_lt_mul'' h h'
theorem L5:10^(k+1)=10*10^k:=(Nat.pow_succ ..).trans (Nat.mul_comm ..)
theorem Bd.two(h:a.natAbs<=x.natAbs+y.natAbs)(hx:Bd k x)(hy:Bd k y):Bd (k+1) a:=by
 unfold Bd at*;rw [L5];exact dA h (ey (abn hx hy) (by rw [<-Nat.two_mul];exact Nat.mul_le_mul_right _ (aw rfl)))
theorem Bd.bits(h:Bd 400 a):a.natAbs<2^1600:=ey h (by decide+kernel)
theorem L6(h:Bd 400 b)(q:b≠0):jZ b=true:=by
 unfold jZ band aT;rw [g0.mpr (kS h.bits (XP (aw rfl) (aw rfl))),pf q];rfl
theorem Gy(h:Bd 400 a):a.natAbs.log2<1600:=by
 by_cases q:a.natAbs=0
 ·rw [q];decide
 ·exact (aaH q).mpr h.bits
theorem TX(h:Bd 400 a)(h':Bd 400 b):lD a b=true:=by
 unfold lD aT;rw [g0.mpr (kS (abn (Gy h) (Gy h')) (aw rfl))];cases small a<;>cases small b<;>rfl
theorem C6(h:Bd 400 a)(h':Bd 400 b):Tq 1000 [.int a,.int b] (.int (a*b)):=λU U=>CV (TX h h')
theorem TY(a:Int)(h:Bd 400 b)(q:b≠0):Tq 1001 [.int a,.int b] (.int (ib a b)):=λU U=>CV (L6 h q)
theorem TZ(a:Int)(h:Bd 400 b)(q:b≠0):Tq 1002 [.int a,.int b] (.int (rx a b)):=λU U=>CV (L6 h q)
theorem Gz(e:b=(k:Int))(h:k<=1000):Tq 1003 [.int 10,.int b] (.int (10^k)):=by
 subst e;refine λU U=>CV (z:=10^k) ?_;unfold rt band aT;rw [pt (eI k),aav,g0.mpr (dA h (show 1000<2^20 by decide))];rfl
end
noncomputable def ab(a:Int):Int:=cond (decide (a<0)) (-a) a
theorem w7(a:Int):ab a=a.natAbs:=by
 unfold ab;cases h:decide (a<0) with
 |true=>exact (Int.ofNat_natAbs_of_nonpos (aap (of_decide_eq_true h))).symm
 |false=>exact (X1 (ro.mp (of_decide_eq_false h))).symm
theorem Bd.ab(h:Bd k a):Bd k (PL.ab a):=by rw [w7];exact h
noncomputable def Dc(u:Int)(s:Nat):V:=.tup [.int u,.int s]
theorem ZQ(n:Nat)(H:Hp)(hy:y≠0)(hb:Bd 400 y): ∃z,rn (n+1) 36 [.int x,.int y] H=.ok (.val (.int z)) H/\z.natAbs<=x.natAbs:=by
 have h1:=TY (ab x) (b:=ab y) hb.ab (by rw [w7];exact λe=>hy (H4.mp (abz e)));have hz:(ib (ab x) (ab y)).natAbs<=x.natAbs:=by rw [w7 x];exact L9 _ _
 generalize ib (ab x) (ab y)=z at h1 hz;have hz':(-z).natAbs<=x.natAbs:=by rw [TC];exact hz
 cases hx:decide (x<0)<;>cases hy:decide (y<0)
 ·exact ⟨z,go [1001,1006] (tq (xw hx) (tq (xw hy) (tq h1 ok))),hz⟩
 ·exact ⟨-z,go [1001,1006] (tq (xw hx) (tq (xw hy) (tq h1 ok))),hz'⟩
 ·exact ⟨-z,go [1001,1006] (tq (xw hx) (tq (xw hy) (tq h1 ok))),hz'⟩
 ·exact ⟨z,go [1001,1006] (tq (xw hx) (tq (xw hy) (tq h1 ok))),hz⟩
def Num(j:Nat)(v:V):Prop:= ∃u s,v=Dc u s/\Bd (10*j) u/\s<=2*j
theorem Num.mono(h:Num i v)(k:i<=j):Num j v:=h.imp λU h=>h.imp λU h=>⟨h.1,h.2.1.mono (il 10 k),bt h.2.2 (il 2 k)⟩
theorem GA:Bd 400 10:=Bd.C5 (s:=1) (aw rfl)
def PN:M Bool:=kE [(ay .gt (aa 1) (ak 0)),(ay .eq (aE .mod (aa 0) (ak 10)) (ak 0))]
def PO:fF:=br [(af (aj 0) (aE .fdiv (aa 0) (ak 10))),(af (aj 1) (aE .sub (aa 1) (ak 1)))]
theorem Ua:Nt PN:=SW (fB (Ke (zk _) cE) (fB (Ke (Kd (zk _) cE) cE) iF))
theorem Yk:Nt PO:=iT (fB (oS (jy _) (Kd (zk _) cE)) (fB (oS (jy _) (Kd (zk _) cE)) iF))
theorem kZ(ht:t cf ρ H=.ok true CW H1)(hb:b cf CW H1=.ok .next ρ2 H2):whileLoop (n+1) t b cf ρ H=whileLoop n t b cf ρ2 H2:=by
 show (t cf ρ H).bind _=_;rw [ht];show (b cf CW H1).bind _=_;rw [hb];rfl
theorem iG(ht:t cf ρ H=.ok false CW H1):whileLoop (n+1) t b cf ρ H=.ok .next CW H1:=by
 show (t cf ρ H).bind _=_;rw [ht];rfl
theorem Yl(s:Nat):((s+1:Nat):Int)-1=(s:Int):=Int.add_sub_cancel s 1
theorem KA(s:Nat): ∀(n:Nat) (u:Int),s<n-> ∃u' s',whileLoop n PN PO (rn k) [.val (.int u),.val (.int s)] H=.ok .next [.val (.int u'),.val (.int (s':Nat))] H/\u'.natAbs<=u.natAbs/\s'<=s:=by
 induction s with
 |zero=>
  intro n u h;induction n with
  |zero=>exact absurd h (by decide)
  |succ n=>exact ⟨u,0,iG (Gx [] Ua L4),eb _,eb _⟩
 |succ s ih=>
  intro n u h;induction n with
  |zero=>exact (xa _ h).elim
  |succ n=>
  have t0:decide ((0:Int)<((s+1:Nat):Int))=true:=pt (aba.mpr (mf s));have ht: ∀v,decide (rx u 10=0)=v->PN (rn k) [.val (.int u),.val (.int (s+1:Nat))] H=.ok v [.val (.int u),.val (.int (s+1:Nat))] H:=λv hm=>by
   rcases v with _|_<;>exact Gx [1002,1004,1008] Ua (jX (tgt t0) (jX (TZ u GA (by decide)) (jX (TV hm) L4)))
  cases hm:decide (rx u 10=0) with
  |false=>exact ⟨u,s+1,iG (ht _ hm),eb _,eb _⟩
  |true=>
   have hb:PO (rn k) [.val (.int u),.val (.int (s+1:Nat))] H=.ok .next [.val (.int (ib u 10)),.val (.int ((s+1:Nat)-1))] H:=Gx [1001] Yk (jX (TY u GA (by decide)) L4)
   refine ae λaA=>?_;obtain ⟨u',s',e1,e2,e3⟩:=ih n (ib u 10) (ui h);refine aA ?_;rw [Yl] at hb;exact ⟨u',s',(kZ (ht _ hm) hb).trans e1,bt e2 (L9 _ _),aaB e3⟩
theorem bQ(h:s cf ρ H=.ok .next ρ' H'):br (s::r) cf ρ H=br r cf ρ' H':=by
 show (s cf ρ H).bind _=_;rw [h];rfl
theorem Ub(n:Nat)(H:Hp)(hu:Bd (10*j) u)(hs:s<=2*j)(hj:j<=40): ∃r,rn (n+1) 37 [.int u,.int s] H=.ok (.val r) H/\Num j r:=by
 refine ae λaA=>?_;obtain ⟨u',s',e1,e2,e3⟩:=KA (k:=n) (H:=H) s cJ u (dA (bt hs (il 2 hj)) (aw rfl));refine aA ?_;have t0:decide ((s:Int)<0)=false:=pf (ro.mpr (eI s));refine ⟨Dc u' s',?_,u',s',rfl,dA e2 hu,bt e3 hs⟩;have e0:aH cF ZN.body 0 (rn n) [.val (.int u),.val (.int s)] H=.ok .next [.val (.int u),.val (.int s)] H:=Gx [1006] (jP (k:=37) rfl _ bj) (jX (xw t0) L4)
 exact congrArg eB ((bQ e0).trans ((bQ e1).trans rfl))
end PL
end MP
end Mine.Lake
end
section
namespace Mine.Lake
namespace MP
namespace PL
open PySem
variable(n:Nat)(H:Hp){u x:Int}{s t a b:Nat}{v w:V}
theorem L7:cond (decide ((s:Int)<t)) (t:Int) s=(sk s t:Nat):=by
 cases h:decide ((s:Int)<t) with
 |true=>exact congrArg abo (Nat.max_eq_right (kp (js.mp (of_decide_eq_true h)))).symm
 |false=>exact congrArg abo (Nat.max_eq_left (kV.mp (ro.mp (of_decide_eq_false h)))).symm
theorem GB(h:s<=m):(m:Int)-s=((m-s:Nat):Int):=(Int.ofNat_sub h).symm
theorem g39(hu:Bd 200 u)(hx:Bd 200 x)(hs:s<=100)(ht:t<=100):
  rn (n+1) 39 [Dc u s,Dc x t] H=.ok (.val (.tup [.int (u*10^(sk s t-s)),.int (x*10^(sk s t-t)),.int (sk s t:Nat)])) H:=by
 have l:=abb.mpr ⟨hs,ht⟩;rw [<-L7];have e1:=GB (QR s t);have e2:=GB (PH s t);rw [show ((sk s t:Nat):Int)=_ from L7.symm] at e1 e2;have p: ∀k,sk s t-k<=100:=λk=>bt (Nat.sub_le _ _) l;have w: ∀k,Bd 400 ((10:Int)^(sk s t-k)):=λk=>Bd.C5 (dA (p k) (aw rfl));exact go [1000,1003] (tq (Gz e1 (bt (p s) (aw rfl))) (tq (C6 (hu.mono (aw rfl)) (w s)) (tq (Gz e2 (bt (p t) (aw rfl))) (tq (C6 (hx.mono (aw rfl)) (w t)) ok))))
theorem CX(c:Nat){a m M:Nat}(h:a<=m)(d:eh (c*m) M=true):c*a<=M:=bt (il c h) (aw d)
theorem jz{a m M:Nat}(h:a<=m)(d:eh m M=true):a<=M:=bt h (aw d)
theorem iU{a b i m M:Nat}(e:b<=a+i)(h:a<=m)(d:eh (m+i) M=true):b<=M:=bt e (jz (eM h i) d)
theorem AU{a b i k:Nat}(e:b<=a+i)(d:eh i k=true):b<=a+k:=bt e (dV (aw d) a)
theorem dF(e2:c<=b+j)(e1:b<=a+i):c<=a+(j+i):=bt e2 (bt (eM e1 j) (ke ((fw a i j).trans (congrArg (λU=>a+U) (nr i j)))))
theorem QM{b c i r M:Nat}(e:b<=c+i)(h:c+(r+i)<=M):b+r<=M:=bt (dF (eb (b+r)) e) h
theorem uN(h:s<=m)(d:eh (1+m) cJ=true): ∃n,cJ=n+1+s:=⟨cJ-(1+s),(tm (jz (dV h 1) d)).symm.trans (fw _ _ _).symm⟩
theorem mlt(c:Nat){s a m M:Nat}(h:s<=c*a)(q:a<=m)(d:eh (c*m) M=true):s<=M:=bt h (CX c q d)
theorem L8(hb:1<=b):10*a+(2*b+1)<10*(a+b):=by
 rw [BM];refine sg ?_ _;rw [Nat.add_mul 2 8 b];exact sg (ey (Nat.lt_of_sub_pos (show 0<8-1 from mf _)) (il 8 hb)) _
theorem beside(hv:Num a v)(hw:Num b w)(ha:1<=a)(hb:1<=b)(hab:a+b<=20): ∃y z m,rn (n+1) 39 [v,w] H=.ok (.val (.tup [.int y,.int z,.int (m:Nat)])) H/\m<=2*(a+b)/\Bd (10*(a+b)) (y+z)/\Bd (10*(a+b)) (y-z):=by
 refine ae λaA=>?_;obtain ⟨u,s,rfl,h1,h2⟩:=hv;obtain ⟨x,t,rfl,h3,h4⟩:=hw;refine aA ?_;have l:sk s t<=2*(a+b):=by rw [BM];exact abb.mpr ⟨bt h2 (cw _ _),bt h4 (ky _ _)⟩
 have M0:sk s t<=s+t:=abb.mpr ⟨cw s t,ky t s⟩;have p1:Bd (10*a+(2*b+1)) (u*10^(sk s t-s)):=h1.mul (Bd.C5 (fo (bt (Nat.sub_le_iff_le_add'.mpr M0) h4)));have p2:Bd (10*b+(2*a+1)) (x*10^(sk s t-t)):=h3.mul (Bd.C5 (fo (bt (Nat.sub_le_iff_le_add.mpr M0) h2)));have B:=L8 (a:=a) hb;have q1:=p1.mono (X2 B);have q2:=p2.mono (X2 (nr b a▸L8 ha));have B:=ke (tm (Nat.succ_le_of_lt (Nat.zero_lt_of_lt B)));have ZR:=bt (cw a b) hab;have ZS:=bt (ky b a) hab;exact ⟨_,_,_,g39 n H (h1.mono (CX 10 ZR rfl)) (h3.mono (CX 10 ZS rfl)) (mlt 2 h2 ZR rfl) (mlt 2 h4 ZS rfl),l,(q1.two (aaF _ _) q2).mono B,(q1.two (Int.natAbs_sub_le _ _) q2).mono B⟩
theorem ZT(hv:Num a v)(hw:Num b w)(ha:1<=a)(hb:1<=b)(hab:a+b<=20): ∃r,rn (n+2) 40 [v,w] H=.ok (.val r) H/\Num (a+b) r:=by
 refine ae λaA=>?_;obtain ⟨y,z,m,e,l,p,_⟩:=beside n H hv hw ha hb hab;obtain ⟨r,q,N⟩:=Ub n H p l (bt hab (aw rfl));refine aA ?_;exact ⟨r,go [37,39] (st e (st q ok)),N⟩
theorem ZU(hv:Num a v)(hw:Num b w)(ha:1<=a)(hb:1<=b)(hab:a+b<=20): ∃r,rn (n+2) 41 [v,w] H=.ok (.val r) H/\Num (a+b) r:=by
 refine ae λaA=>?_;obtain ⟨y,z,m,e,l,_,p⟩:=beside n H hv hw ha hb hab;obtain ⟨r,q,N⟩:=Ub n H p l (bt hab (aw rfl));refine aA ?_;exact ⟨r,go [37,39] (st e (st q ok)),N⟩
theorem ZV(d:Nat)(hd:d<=1000):rn (n+1) 48 [.int u,.int d] H=.ok (.val (.bool (decide (ab u<10^d)))) H:=go [1003] (tq (Gz rfl hd) ok)
theorem g38(hu:Bd (10*a) u)(hs:s<=2*a)(ha:a<=12): ∃r,rn (n+2) 38 [.int u,.int s] H=.ok (.val r) H/\Num a r:=by
 obtain ⟨r,q,N⟩:=Ub n H hu hs (bt ha (aw rfl));have h1:decide ((30:Int)<s)=false:=pf (ro.mpr (kV.mpr (bt hs (bt (il 2 ha) (aw rfl)))));have h2:decide (ab u<10^120)=true:=pt (by
  have:=hu.mono (m:=120) (CX 10 ha rfl)
  unfold Bd at this;rw [w7]
  exact_mod_cast this)
 have e:=ZV n H (u:=u) 120 (aw rfl);rw [h2] at e;exact ⟨r,go [37,48,1008] (tq (tgt h1) (st e (st q ok))),N⟩
theorem Uc:((s+t:Nat):Int)=s+t:=FX s t
theorem ZW(hv:Num a v)(hw:Num b w)(hab:a+b<=12): ∃r,rn (n+3) 42 [v,w] H=.ok (.val r) H/\Num (a+b) r:=by
 refine ae λaA=>?_;obtain ⟨u,s,rfl,h1,h2⟩:=hv;obtain ⟨x,t,rfl,h3,h4⟩:=hw;obtain ⟨r,q,N⟩:=g38 n H (u:=u*x) (s:=s+t) (a:=a+b) (by rw [BM];exact h1.mul h3) (BM 2 a b▸HI h2 h4) hab;refine aA ?_;rw [Uc] at q;exact ⟨r,go [38,1000] (tq (C6 (h1.mono (CX 10 (bt (cw a b) hab) rfl)) (h3.mono (CX 10 (bt (ky b a) hab) rfl))) (st q ok)),N⟩
theorem g43(hv:Num a v): ∃r,rn (n+1) 43 [v] H=.ok (.val r) H/\Num a r:=by
 obtain ⟨u,s,rfl,h1,h2⟩:=hv;exact ⟨Dc (-u) s,go [] ok, -u,s,rfl,by unfold Bd at*;rw [TC];exact h1,h2⟩
theorem uO(s:Nat):(10:Int)^s≠0:=Int.ne_of_gt (Int.pow_pos (by decide))
theorem g44(hv:Num a v)(hw:Num b w)(ha:a<=5)(hb:b<=5):(∃r,rn (n+2) 44 [v,w] H=.ok (.val r) H/\Num 15 r)\/ ∃x,rn (n+2) 44 [v,w] H=.exc 2 x H:=by
 refine ae λaA=>?_;obtain ⟨u,s,rfl,h1,h2⟩:=hv;obtain ⟨x,t,rfl,h3,h4⟩:=hw;refine aA ?_;cases q:decide (x=0) with
 |true=>exact .inr ⟨_,go [1004] (tq (TV q) (ex (w:=.str [97,32,100,105,118,105,115,105,111,110,32,98,121,32,48])))⟩
 |false=>
  have hx:=of_decide_eq_false q;have Ym:=mlt (M:=10) 2 h2 ha rfl;have Yn:30+t<=40:=dV (mlt (M:=10) 2 h4 hb rfl) 30;have m1:Bd 150 (u*10^(30+t)):=(h1.mul (Bd.C5 (k:=41) (fo Yn))).mono (eM (m:=109) (CX 10 ha rfl) 41);have m2:Bd 150 (x*10^s):=(h3.mul (Bd.C5 (k:=11) (fo Ym))).mono (eM (m:=139) (CX 10 hb rfl) 11);refine ae λb8=>?_;obtain ⟨z,e3,hz⟩:=ZQ n H (x:=u*10^(30+t)) (y:=x*10^s) (abc hx (uO s)) (m2.mono (aw rfl));obtain ⟨r,e4,N⟩:=Ub n H (u:=z) (s:=30) (j:=15) (dA hz m1) (aw rfl) (aw rfl);refine b8 ?_;have t1:Bd 400 ((10:Int)^(30+t)):=Bd.C5 (dA Yn (aw rfl));have t2:Bd 400 ((10:Int)^s):=Bd.C5 (dA Ym (aw rfl));exact .inl ⟨r,go [36,37,1000,1003,1004] (tq (TV q) (tq (Gz (Uc (s:=30) (t:=t)).symm (bt Yn (aw rfl))) (tq (C6 (h1.mono (CX 10 ha rfl)) t1) (tq (Gz (k:=s) rfl (bt Ym (aw rfl))) (tq (C6 (h3.mono (CX 10 hb rfl)) t2) (st e3 (st e4 ok))))))),N⟩
theorem g45(c:Bool)(hv:Num 15 v): ∃z,rn (n+2) 45 [v,.int 0,.bool c] H=.ok (.val (.int z)) H:=by
 obtain ⟨u,s,rfl,h1,h2⟩:=hv;induction s with
 |zero=>exact ⟨u*10^0,go [1000] (tq (C6 (a:=u) (b:=10^0) (h1.mono (by decide)) (Bd.C5 (by decide))) ok)⟩
 |succ s=>
  have g1:decide (((s+1:Nat):Int)<=0)=false:=pf (aa4.mpr (aba.mpr (mf s)));have n1:=Bd.C5 (fo h2);have e1:((s+1:Nat):Int)-0=(s+1:Nat):=Int.sub_zero _;induction c with
  |false=>
   obtain ⟨z,e3,_⟩:=ZQ n H (x:=u) (uO (s+1)) (n1.mono (by decide));exact ⟨z,go [36,1003,1009] (tq (Yj g1) (tq (Gz e1 (bt h2 (by decide))) (st e3 ok)))⟩
  |true=>
   have n3:Bd 400 (2*(10:Int)^(s+1)):=(Bd.mul (k:=1) (show (2:Int).natAbs<10^1 by decide) n1).mono (aw rfl);have b2:Bd 400 2:=Bd.mono (k:=1) (show (2:Int).natAbs<10^1 by decide) (aw rfl);have d:=TY (2*ab u+10^(s+1)) n3 (abc (by decide) (uO _));generalize ib _ _=q at d;cases hs:decide (u<0) with
   |false=>exact ⟨q,go [1000,1001,1003,1006,1009] (tq (Yj g1) (tq (Gz e1 (bt h2 (by decide))) (tq (C6 b2 (h1.ab.mono (by decide))) (tq (C6 b2 (n1.mono (by decide))) (tq d (tq (xw hs) ok))))))⟩
   |true=>exact ⟨-q,go [1000,1001,1003,1006,1009] (tq (Yj g1) (tq (Gz e1 (bt h2 (by decide))) (tq (C6 b2 (h1.ab.mono (by decide))) (tq (C6 b2 (n1.mono (by decide))) (tq d (tq (xw hs) ok))))))⟩
end PL
end MP
end Mine.Lake
end
section
namespace Mine.Lake
namespace MP
namespace PL
open PySem
noncomputable def Sn(d:Nat):V:=.inst 0 [(12,.str [110,117,109,101,114,105,99]),(10,.int d),(30,.none),(20,.str [100,105,115,112,108,97,121]),(19,.str [116,114,97,105,108,105,110,103]),(18,.bool false),(33,.bool false),(31,.bool false),(13,.int d),(14,.int 0),(15,.bool false)]
def qz(d:Nat):Prop:=d=1\/d=2\/d=4
noncomputable def fg(z:Int):Nat:=(rx z 10).toNat
def VJ(l_:Nat):Int->List Nat->List Nat:=l_.rec (λU l=>l) λU ih z l=>ih (ib z 10) (fg z::l)
noncomputable def qA:List Nat->Prop
 |[]=>True
 |a::r=>a<10/\qA r
def xd(w:List Nat):Prop:= ∀x∈w,48<=x/\x<=57
noncomputable def LX(e:Nat):V:=.int (48+(e:Int))
variable(n:Nat)(H:Hp){d:Nat}{z u:Int}
theorem Ud(z:Int):fg z<10:=by
 exact js.mp (by (rewrite [fg,wx (RF z (by decide))];try with_reducible rfl);exact (Int.fmod_lt_of_pos z (show (0:Int)<10 by decide)))
theorem PR(z:Int):Tq 1002 [.int z,.int 10] (.int (fg z:Nat)):=by
 rw [show ((fg z:Nat):Int)=rx z 10 from wx (RF z (by decide))];exact TZ z GA (by decide)
theorem tf(z:Int):Tq 1001 [.int z,.int 10] (.int (ib z 10)):=TY z GA (by decide)
theorem GC(k:Nat)(z:Int)(h:qA l):qA (VJ k z l):=by
 induction k generalizing z l with
 |zero=>exact h
 |succ k ih=>exact ih _ ⟨Ud z,h⟩
theorem AV(k:Nat)(z:Int)(l:List Nat):(VJ k z l).length=k+l.length:=by
 induction k generalizing z l with
 |zero=>exact (fb _).symm
 |succ k ih=>exact (ih _ _).trans (sb k l.length).symm
theorem PS(h:qA l):octets (l.map LX)=some (l.map (λU=>48+U)):=by
 induction l with
 |nil=>rfl
 |cons a l ih=>
  show gg (aT (48+a) 256) (bb (octets (l.map LX)) _)=_;rw [ih h.2,show aT (48+a) 256=true from g0.mpr (ey (sg h.1 48) (aw rfl))];rfl
theorem ZX(h:qA l)(hn:bf (l.map LX).length=true):Tq 1010 [.list (l.map LX)] (.bytes (l.map (λU=>48+U))):=λU U=>by
 show rB (bb (octets (l.map LX)) _) _=_;rw [PS h];show rB (gg (bf _) _) _=_;rw [hn];rfl
theorem Yo(h:qA l):xd (l.map (λU=>48+U)):=by
 induction l with
 |nil=>exact λU h=>nomatch h
 |cons a l ih=>exact λx hx=>(de.mp hx).elim (λe=>e▸⟨cw _ _,dV (og h.1) 48⟩) (ih h.2 x)
theorem g16(hd:d<=1000):rn (n+1) 16 [Sn d] H=.ok (.val (.int (10^d))) H:=go [1003] (tq (Gz rfl hd) ok)
theorem qz.le(h:qz d):d<=4:=by rcases h with rfl|rfl|rfl<;>decide
theorem g49(hd:d<=300)(u:Int): ∃z,rn (n+2) 49 [Sn d,.int u] H=.ok (.val (.int z)) H:=by
 have hm:=TZ (ab u) (b:=10^d) (Bd.C5 (dA hd (aw rfl))) (uO d);generalize rx (ab u) (10^d)=z at hm;refine ⟨z,?_⟩;cases hs:decide (u<0)<;>exact go [16,1002,1006] (st (g16 n H (bt hd (by decide))) (tq hm (tq (xw hs) ok)))
theorem g50(hd:qz d)(z:Int):rn (n+1) 50 [.int z,.int d] H=.ok (.own (.list ((VJ d z []).map λe=>.int (e:Nat)))) H:=by
 rcases hd with rfl|rfl|rfl
 ·exact go [1001,1002] (tq (PR z) (tq (tf z) ok))
 ·exact go [1001,1002] (tq (PR z) (tq (tf z) (tq (PR (ib z 10)) (tq (tf (ib z 10)) ok))))
 ·exact go [1001,1002] (tq (PR z) (tq (tf z) (tq (PR (ib z 10)) (tq (tf (ib z 10)) (tq (PR (ib (ib z 10) 10)) (tq (tf (ib (ib z 10) 10)) (tq (PR (ib (ib (ib z 10) 10) 10)) (tq (tf (ib (ib (ib z 10) 10) 10)) ok))))))))
theorem g51(hd:qz d)(z:Int):rn (n+2) 51 [Sn d,.int z] H=.ok (.val (.bytes ((VJ d (ab z) []).map (λU=>48+U)))) H:=by
 have h:=g50 n H hd (ab z);have hb:=ZX (GC d (ab z) (l:=[]) trivial) (by rw [df,AV];exact g0.mpr (dA hd.le (aw rfl)));rcases hd with rfl|rfl|rfl<;>exact go [50,1010] (st h (tq hb ok))
def ZY(d:Nat)(x:Res)(H:Hp):Prop:= ∃w,x=.ok (.val (.bytes w)) H/\w.length=d/\xd w
theorem g53(hd:qz d)(u:Int):ZY d (rn (n+3) 53 [Sn d,.int u] H) H:=by
 obtain ⟨z,h⟩:=g49 n H (bt hd.le (aw rfl)) u;exact ⟨_,go [49,51] (st h (st (g51 n H hd z) ok)),(df ..).trans (AV d (ab z) []),Yo (GC d (ab z) (l:=[]) trivial)⟩
theorem g73(hd:qz d)(u:Int):ZY d (rn (n+4) 73 [Sn d,.int u] H) H:=by
 obtain ⟨w,h,q⟩:=g53 n H hd u;exact ⟨w,go [53] (st h ok),q⟩
structure Dg(x:Int):Prop where
 l:decide (0<=x)=true
 u:decide (x<=9)=true
theorem Bd.dig(h:Bd k f)(D:Dg x):Bd (k+1) (10*f+x):=by
 have l:=of_decide_eq_true D.l;have u:=of_decide_eq_true D.u;unfold Bd at*;rw [L5];refine dA (aaF _ _) ?_;rw [abm]
 have:x.natAbs<=9:=kV.mp (by rw [X1 l];exact u)
 exact ey (sg (fo this) _) (il 10 h)
theorem Ht:Bd 0 0:=show (0:Nat)<1 by decide
section
variable{a b c e:Int}(ha:Dg a)(hb:Dg b)(hc:Dg c)(he:Dg e)
noncomputable def jn(f x:Int):Int:=10*f+x
theorem tj(h:Bd k f)(hk:k<=9):Tq 1000 [.int 10,.int f] (.int (10*f)):=C6 GA (h.mono (bt hk (aw rfl)))
include ha
theorem j1: ∃z,rn (n+1) 54 [.list [.int a]] H=.ok (.val (.int z)) H/\Bd 10 z:=
 ⟨jn 0 a,go [1000,1007] (tq (AS ha.l) (tq (AS ha.u) (tq (tj Ht (aw rfl)) ok))),(Ht.dig ha).mono (aw rfl)⟩
include hb
theorem j2: ∃z,rn (n+1) 54 [.list [.int a,.int b]] H=.ok (.val (.int z)) H/\Bd 10 z:=
 ⟨jn (jn 0 a) b,go [1000,1007] (tq (AS ha.l) (tq (AS ha.u) (tq (tj Ht (aw rfl)) (tq (AS hb.l) (tq (AS hb.u) (tq (tj (Ht.dig ha) (aw rfl)) ok)))))),((Ht.dig ha).dig hb).mono (aw rfl)⟩
include hc he
theorem j4: ∃z,rn (n+1) 54 [.list [.int a,.int b,.int c,.int e]] H=.ok (.val (.int z)) H/\Bd 10 z:=
 ⟨jn (jn (jn (jn 0 a) b) c) e,go [1000,1007] (tq (AS ha.l) (tq (AS ha.u) (tq (tj Ht (aw rfl)) (tq (AS hb.l) (tq (AS hb.u) (tq (tj (Ht.dig ha) (aw rfl)) (tq (AS hc.l) (tq (AS hc.u) (tq (tj ((Ht.dig ha).dig hb) (aw rfl)) (tq (AS he.l) (tq (AS he.u) (tq (tj (((Ht.dig ha).dig hb).dig hc) (aw rfl)) ok)))))))))))),((((Ht.dig ha).dig hb).dig hc).dig he).mono (aw rfl)⟩
end
theorem Ue{x:Nat}(h:48<=x/\x<=57):Dg ((x:Int)-48):=⟨pt (Int.sub_nonneg.mpr (kV.mpr h.1)),pt (Int.sub_right_le_of_le_add (kV.mpr h.2))⟩
theorem PU(h:xd (a::l)):Dg ((a:Int)-48)/\xd l:=⟨Ue (h a bj),λx hx=>h x (cb _ hx)⟩
theorem g57(hd:qz d)(hw:w.length=d)(hf:xd w): ∃r,rn (n+5) 57 [Sn d,.bytes w] H=.ok (.val r) H/\Num 1 r:=by
 have fin: ∀z,Bd 10 z-> ∃r,rn (n+4) 37 [.int z,.int (0:Nat)] H=.ok (.val r) H/\Num 1 r:=λz q=>Ub (n+3) H (s:=0) (j:=1) q (aw rfl) (aw rfl);rcases hd with rfl|rfl|rfl
 ·match w,hw,hf with
  |[a],_,hf=>
   refine ae λaA=>?_;obtain ⟨z,e,q⟩:=j1 (n+1) H (PU hf).1;obtain ⟨r,e2,N⟩:=fin z q;refine aA ?_;exact ⟨r,go [37,54] (st e (st e2 ok)),N⟩
 ·match w,hw,hf with
  |[a,b],_,hf=>
   refine ae λb8=>?_;obtain ⟨h1,hf⟩:=PU hf;obtain ⟨z,e,q⟩:=j2 (n+1) H h1 (PU hf).1;obtain ⟨r,e2,N⟩:=fin z q;refine b8 ?_;exact ⟨r,go [37,54] (st e (st e2 ok)),N⟩
 ·match w,hw,hf with
  |[a,b,c,e],_,hf=>
   refine ae λjT=>?_;obtain ⟨h1,hf⟩:=PU hf;obtain ⟨h2,hf⟩:=PU hf;obtain ⟨h3,hf⟩:=PU hf;obtain ⟨z,e,q⟩:=j4 (n+1) H h1 h2 h3 (PU hf).1;obtain ⟨r,e2,N⟩:=fin z q;refine jT ?_;exact ⟨r,go [37,54] (st e (st e2 ok)),N⟩
end PL
end MP
end Mine.Lake
end
section
namespace Mine.Lake
namespace MP
namespace PL
open PySem
noncomputable def W(n c:Int)(m:List Nat):Hp:=[(.list [.int n,.int c]),(.inst 3 [(4,(.ref 2)),(3,(.ref 3)),(2,(.ref 4)),(40,(.ref 5)),(10,(.int 29)),(16,(.ref 45))]),(.list [(.ref 7),(.ref 33),(.ref 39)]),(.list []),(.dict []),(.list []),(.dict []),(.inst 1 [(8,(.int 1)),(1,(.str [82])),(34,.none),(20,(.str [])),(19,(.str [])),(18,(.bool false)),(7,.none),(23,(.str [])),(22,.none),(33,(.bool false)),(31,(.bool false)),(35,(.ref 8)),(5,(.ref 9)),(6,.none),(36,.none),(25,(.str [])),(9,(.int 0)),(10,(.int 27)),(17,(.inst 0 [(12,(.str [103,114,111,117,112])),(10,(.int 27)),(30,.none),(20,(.str [100,105,115,112,108,97,121])),(19,(.str [116,114,97,105,108,105,110,103])),(18,(.bool false)),(33,(.bool false)),(31,(.bool false)),(13,(.int 0)),(14,(.int 0)),(15,(.bool false))]))]),(.list []),(.list [(.ref 10),(.ref 13),(.ref 16),(.ref 19),(.ref 22)]),(.inst 1 [(8,(.int 5)),(1,(.str [65,76])),(34,.none),(20,(.str [])),(19,(.str [])),(18,(.bool false)),(7,.none),(23,(.str [])),(22,.none),(33,(.bool false)),(31,(.bool false)),(35,(.ref 11)),(5,(.ref 12)),(6,(.ref 7)),(36,.none),(25,(.str [])),(9,(.int 0)),(10,(.int 3)),(17,(.inst 0 [(12,(.str [97,108,112,104,97,98,101,116,105,99])),(10,(.int 3)),(30,.none),(20,(.str [100,105,115,112,108,97,121])),(19,(.str [116,114,97,105,108,105,110,103])),(18,(.bool false)),(33,(.bool false)),(31,(.bool false)),(13,(.int 0)),(14,(.int 0)),(15,(.bool false))]))]),(.list []),(.list []),(.inst 1 [(8,(.int 5)),(1,(.str [65,78])),(34,.none),(20,(.str [])),(19,(.str [])),(18,(.bool false)),(7,.none),(23,(.str [])),(22,.none),(33,(.bool false)),(31,(.bool false)),(35,(.ref 14)),(5,(.ref 15)),(6,(.ref 7)),(36,.none),(25,(.str [])),(9,(.int 3)),(10,(.int 4)),(17,(.inst 0 [(12,(.str [97,108,112,104,97,110,117,109,101,114,105,99])),(10,(.int 4)),(30,.none),(20,(.str [100,105,115,112,108,97,121])),(19,(.str [116,114,97,105,108,105,110,103])),(18,(.bool false)),(33,(.bool false)),(31,(.bool false)),(13,(.int 0)),(14,(.int 0)),(15,(.bool false))]))]),(.list []),(.list []),(.inst 1 [(8,(.int 5)),(1,(.str [78,85])),(34,.none),(20,(.str [])),(19,(.str [])),(18,(.bool false)),(7,.none),(23,(.str [])),(22,.none),(33,(.bool false)),(31,(.bool false)),(35,(.ref 17)),(5,(.ref 18)),(6,(.ref 7)),(36,.none),(25,(.str [])),(9,(.int 7)),(10,(.int 4)),(17,(.inst 0 [(12,(.str [110,117,109,101,114,105,99])),(10,(.int 4)),(30,.none),(20,(.str [100,105,115,112,108,97,121])),(19,(.str [116,114,97,105,108,105,110,103])),(18,(.bool false)),(33,(.bool false)),(31,(.bool false)),(13,(.int 4)),(14,(.int 0)),(15,(.bool false))]))]),(.list []),(.list []),(.inst 1 [(8,(.int 5)),(1,(.str [73,88])),(34,.none),(20,(.str [])),(19,(.str [])),(18,(.bool false)),(7,.none),(23,(.str [])),(22,.none),(33,(.bool false)),(31,(.bool false)),(35,(.ref 20)),(5,(.ref 21)),(6,(.ref 7)),(36,.none),(25,(.str [])),(9,(.int 11)),(10,(.int 4)),(17,(.inst 0 [(12,(.str [105,110,100,101,120])),(10,(.int 4)),(30,.none),(20,(.str [105,110,100,101,120])),(19,(.str [116,114,97,105,108,105,110,103])),(18,(.bool false)),(33,(.bool false)),(31,(.bool false)),(13,(.int 9)),(14,(.int 0)),(15,(.bool true))]))]),(.list []),(.list []),(.inst 1 [(8,(.int 5)),(1,(.str [84])),(34,.none),(20,(.str [])),(19,(.str [])),(18,(.bool false)),(7,(.ref 25)),(23,(.str [])),(22,.none),(33,(.bool false)),(31,(.bool false)),(35,(.ref 23)),(5,(.ref 24)),(6,(.ref 7)),(36,.none),(25,(.str [])),(9,(.int 15)),(10,(.int 4)),(17,(.inst 0 [(12,(.str [103,114,111,117,112])),(10,(.int 4)),(30,.none),(20,(.str [100,105,115,112,108,97,121])),(19,(.str [116,114,97,105,108,105,110,103])),(18,(.bool false)),(33,(.bool false)),(31,(.bool false)),(13,(.int 0)),(14,(.int 0)),(15,(.bool false))]))]),(.list []),(.list [(.ref 26),(.ref 29)]),(.inst 2 [(37,(.int 1)),(11,(.int 3)),(38,.none),(39,(.tup [])),(16,(.tup []))]),(.inst 1 [(8,(.int 5)),(1,(.str [75])),(34,.none),(20,(.str [])),(19,(.str [])),(18,(.bool false)),(7,.none),(23,(.str [])),(22,.none),(33,(.bool false)),(31,(.bool false)),(35,(.ref 27)),(5,(.ref 28)),(6,(.ref 22)),(36,.none),(25,(.str [])),(9,(.int 15)),(10,(.int 2)),(17,(.inst 0 [(12,(.str [110,117,109,101,114,105,99])),(10,(.int 2)),(30,.none),(20,(.str [100,105,115,112,108,97,121])),(19,(.str [116,114,97,105,108,105,110,103])),(18,(.bool false)),(33,(.bool false)),(31,(.bool false)),(13,(.int 2)),(14,(.int 0)),(15,(.bool false))]))]),(.list []),(.list []),(.inst 1 [(8,(.int 5)),(1,(.str [85])),(34,.none),(20,(.str [])),(19,(.str [])),(18,(.bool false)),(7,(.ref 32)),(23,(.str [])),(22,.none),(33,(.bool false)),(31,(.bool false)),(35,(.ref 30)),(5,(.ref 31)),(6,(.ref 22)),(36,.none),(25,(.str [])),(9,(.int 17)),(10,(.int 1)),(17,(.inst 0 [(12,(.str [97,108,112,104,97,110,117,109,101,114,105,99])),(10,(.int 1)),(30,.none),(20,(.str [100,105,115,112,108,97,121])),(19,(.str [116,114,97,105,108,105,110,103])),(18,(.bool false)),(33,(.bool false)),(31,(.bool false)),(13,(.int 0)),(14,(.int 0)),(15,(.bool false))]))]),(.list []),(.list []),(.inst 2 [(37,(.int 1)),(11,(.int 2)),(38,.none),(39,(.tup [])),(16,(.tup []))]),(.inst 1 [(8,(.int 1)),(1,(.str [82,50])),(34,.none),(20,(.str [])),(19,(.str [])),(18,(.bool false)),(7,.none),(23,(.str [])),(22,.none),(33,(.bool false)),(31,(.bool false)),(35,(.ref 34)),(5,(.ref 35)),(6,.none),(36,.none),(25,(.str [])),(9,(.int 27)),(10,(.int 1)),(17,(.inst 0 [(12,(.str [103,114,111,117,112])),(10,(.int 1)),(30,.none),(20,(.str [100,105,115,112,108,97,121])),(19,(.str [116,114,97,105,108,105,110,103])),(18,(.bool false)),(33,(.bool false)),(31,(.bool false)),(13,(.int 0)),(14,(.int 0)),(15,(.bool false))]))]),(.list []),(.list [(.ref 36)]),(.inst 1 [(8,(.int 5)),(1,(.str [84,87,73,67,69])),(34,.none),(20,(.str [])),(19,(.str [])),(18,(.bool false)),(7,.none),(23,(.str [])),(22,.none),(33,(.bool false)),(31,(.bool false)),(35,(.ref 37)),(5,(.ref 38)),(6,(.ref 33)),(36,.none),(25,(.str [])),(9,(.int 27)),(10,(.int 1)),(17,(.inst 0 [(12,(.str [110,117,109,101,114,105,99])),(10,(.int 1)),(30,.none),(20,(.str [100,105,115,112,108,97,121])),(19,(.str [116,114,97,105,108,105,110,103])),(18,(.bool false)),(33,(.bool false)),(31,(.bool false)),(13,(.int 1)),(14,(.int 0)),(15,(.bool false))]))]),(.list []),(.list []),(.inst 1 [(8,(.int 1)),(1,(.str [82,51])),(34,.none),(20,(.str [])),(19,(.str [])),(18,(.bool false)),(7,.none),(23,(.str [])),(22,.none),(33,(.bool false)),(31,(.bool false)),(35,(.ref 40)),(5,(.ref 41)),(6,.none),(36,.none),(25,(.str [])),(9,(.int 28)),(10,(.int 1)),(17,(.inst 0 [(12,(.str [103,114,111,117,112])),(10,(.int 1)),(30,.none),(20,(.str [100,105,115,112,108,97,121])),(19,(.str [116,114,97,105,108,105,110,103])),(18,(.bool false)),(33,(.bool false)),(31,(.bool false)),(13,(.int 0)),(14,(.int 0)),(15,(.bool false))]))]),(.list []),(.list [(.ref 42)]),(.inst 1 [(8,(.int 5)),(1,(.str [84,87,73,67,69])),(34,.none),(20,(.str [])),(19,(.str [])),(18,(.bool false)),(7,.none),(23,(.str [])),(22,.none),(33,(.bool false)),(31,(.bool false)),(35,(.ref 43)),(5,(.ref 44)),(6,(.ref 39)),(36,.none),(25,(.str [])),(9,(.int 28)),(10,(.int 1)),(17,(.inst 0 [(12,(.str [110,117,109,101,114,105,99])),(10,(.int 1)),(30,.none),(20,(.str [100,105,115,112,108,97,121])),(19,(.str [116,114,97,105,108,105,110,103])),(18,(.bool false)),(33,(.bool false)),(31,(.bool false)),(13,(.int 1)),(14,(.int 0)),(15,(.bool false))]))]),(.list []),(.list []),(.dict [([84,45,73],(.ref 22))]),(.dict []),(.inst 5 [(1,(.str [80])),(28,(.ref 1)),(2,(.ref 46)),(47,.none),(48,(.bool false))]),(.inst 4 [(29,(.ref 47)),(41,.none),(42,(.ref 49)),(43,(.ref 50)),(27,(.ref 52)),(16,(.ref 53)),(26,(.ref 54)),(44,(.ref 55)),(45,(.ref 56)),(46,(.bytes [])),(40,(.ref 57))]),(.list []),(.list []),(.jS [32,32,32,32,32,32,32,48,48,48,48,0,0,0,0,48,48,32,32,48,48,32,32,48,48,32,32,48,48]),(.jS m),(.dict [([84,45,73],(.int 1))]),(.dict []),(.dict []),(.list []),(.dict [])]
noncomputable def m0:List Nat:=[32,32,32,32,32,32,32,48,48,48,48,0,0,0,0,48,48,32,32,48,48,32,32,48,48,32,32,48,48]
theorem CY(k:Nat)(n c:Int):rn (k+12) 83 [] [.list [.int n,.int c]]=.ok (.val (.ref 48)) (W n c m0):=by kernel_rfl
noncomputable def mem(f:Nat->Nat)(t:Nat):List Nat:=[f 0,f 1,f 2,f 3,f 4,f 5,f 6,f 7,f 8,f 9,f 10,f 11,f 12,f 13,f 14,f 15,f 16,f 17,f 18,f 19,f 20,f 21,f 22,f 23,f 24,f 25,f 26,t,f 28]
def HW(n c:Int)(f:Nat->Nat)(t:Nat):Hp:=W n c (mem f t)
noncomputable def rf(nm:List Nat)(q ss:List V)(pt:V):V:=.tup [.str [114,101,102],.str nm,.tup q,.tup ss,pt]
noncomputable def nb(i:Int):V:=.tup [.str [110,117,109,98,101,114],.tup [.int i,.int 0]]
noncomputable def ZZ:List Nat:=[65,76]
noncomputable def uV:List Nat:=[65,78]
noncomputable def uW:List Nat:=[78,85]
noncomputable def KC:List Nat:=[78,79]
noncomputable def zy:List Nat:=[84,87,73,67,69]
noncomputable def qR:V:=.str [82]
noncomputable def AW:V:=.str [82,50]
noncomputable def Z0:V:=.str [82,51]
def TI:V:=rf [84,45,73] [] [] .none
def told:V:=rf zy [AW] [] .none
def subs(t:Nat):List (V×Nat):=[(nb 1,1),(nb 2,2),(TI,1),(told,t-48),(.tup [.str [45],nb 3,told],51-t),(rf uV [] [] .none,0),(.tup [.str [116,101,120,116],.bytes [49]],0),(.tup [.str [102,105,103,117,114,101],.str [83,80,65,67,69]],0),(rf KC [] [] .none,0),(rf zy [] [] .none,0),(.tup [.str [43],nb 1,rf ZZ [] [] .none],0)]
noncomputable def bB{α:Type}:Nat->(Nat->α)->List α
 |0,_=>[]
 |k+1,f=>f 0::bB k λi=>f (i+1)
def at'{α:Type}(d:α)(l:List α)(i:Nat):α:=(aU l i).getD d
theorem zz(d:α)(l:List α):l=bB l.length (at' d l):=by
 induction l with
 |nil=>rfl
 |cons a l ih=>exact congrArg (λU=>a::U) ih
theorem nk(l:List V): ∃f,l=bB l.length f:=⟨_,zz .none l⟩
theorem KD(k:Nat)(f:Nat->α):(bB k f).length=k:=by
 induction k generalizing f with
 |zero=>rfl
 |succ k ih=>exact congrArg (λU=>U+1) (ih _)
def zA(k:Nat)(x:Res)(H:Hp):Prop:= ∃f,x=.ok (.own (.list (bB k f))) H
def Exc(x:Res)(H:Hp):Prop:= ∃e w,x=.exc e w H/\aT e 2=true
noncomputable def uP:Res->Option (Nat×Hp)
 | .ok (.own (.list l)) H=>some (l.length,H)
 |_=>.none
def zB:Res->Option (Bool×Hp)
 | .exc e _ H=>some (aT e 2,H)
 |_=>.none
theorem k7(h:uP x=some (k,H)):zA k x H:=by
 induction x with
 |ok r G=>induction r with
  |own o=>induction o with
   |list l=>cases ag (h);obtain ⟨f,e⟩:=nk l;exact ⟨f,by rw [<-e]⟩
   |_=>exact bw h
  |_=>exact bw h
 |_=>exact bw h
theorem qB(h:zB x=some (true,H)):Exc x H:=by
 induction x with
 |exc e w G=>
  obtain ⟨h1,rfl⟩:=kj (ag h);exact ⟨e,w,rfl,h1⟩
 |_=>exact bw h
structure Sub(v:V)(w:Nat)(t:Nat):Prop where
 c:w=0\/w=1\/w=2
 ok:w≠0-> ∀k n c f,rn (k+20) 72 [.ref 48,v] (HW n c f t)=.ok (.val (.int w)) (HW n c f t)
 bad:w=0-> ∀k n c f,Exc (rn (k+20) 72 [.ref 48,v] (HW n c f t)) (HW n c f t)
 flt: ∀k n c m,zA (cond (bo w 0) 1 0) (rn (k+20) 32 [.ref 1,v] (W n c m)) (W n c m)
theorem Ug(k:Nat)(n c:Int)(m:List Nat)(t:Bool):(subs (cond t 50 49)).map (λp=>uP (rn (k+20) 32 [.ref 1,p.1] (W n c m)))=(subs (cond t 50 49)).map λp=>some (cond (bo p.2 0) 1 0,W n c m):=by rcases t with _|_<;>kernel_rfl
noncomputable def Uh(w:Nat)(x:Res):Option (Bool×Hp):=match x with| .ok (.val (.int (.ofNat i))) H=>some (bo i w,H)|_=>.none
def Yp(w:Nat)(x:Res):Option (Bool×Hp):=match w with|0=>zB x|w+1=>Uh (w+1) x
theorem Yq(k:Nat)(n c:Int)(f:Nat->Nat)(t:Bool):(subs (cond t 50 49)).map (λp=>Yp p.2 (rn (k+20) 72 [.ref 48,p.1] (HW n c f (cond t 50 49))))=(subs (cond t 50 49)).map λU=>some (true,HW n c f (cond t 50 49)):=by rcases t with _|_<;>kernel_rfl
theorem s_c(t:Bool):(subs (cond t 50 49)).map (λp=>aT p.2 3)=(subs (cond t 50 49)).map λU=>true:=by rcases t with _|_<;>kernel_rfl
theorem w3(h:aT w 3=true):w=0\/w=1\/w=2:=by
 match w,h with
 |0,_=>exact .inl rfl
 |1,_=>exact .inr (.inl rfl)
 |2,_=>exact .inr (.inr rfl)
theorem zj(h:Uh w x=some (true,H)):x=.ok (.val (.int w)) H:=by
 induction x with
 |ok r G=>induction r with
  |val v=>cases v with
   |int i=>induction i with
    |ofNat i=>obtain ⟨h1,rfl⟩:=kj (ag h);rw [cq h1];rfl
    |_=>exact bw h
   |_=>exact bw h
  |_=>exact bw h
 |_=>exact bw h
theorem qD(t:Bool)(hp:p∈subs (cond t 50 49)):Sub p.1 p.2 (cond t 50 49):=by
 have h:=λk n c f=>ai (Yq k n c f t) hp;refine ⟨w3 (ai (s_c t) hp),λe k n c f=>?_,λe k n c f=>?_,λk n c m=>k7 (ai (Ug k n c m t) hp)⟩
 ·have h:=h k n c f;revert h e;induction p.2 with
  |zero=>exact λe=>(e rfl).elim
  |succ w=>exact λU h=>zj h
 ·have h:=h k n c f;rw [e] at h;exact qB h
abbrev Qn:=Option (Nat×Nat×List V×Hp)
def nq(x_:Res)(l_:List mO):List Qn×Res:=(l_.rec (λx=>([],x)) (λa U ih x=>(x.q::(ih (x.to a)).1,(ih (x.to a)).2)):Res->List Qn×Res) x_
inductive Hy:List Qn->List mO->Prop
 |nil:Hy [] []
 |cons {n k vs H a qs as}:rn n k vs H=a.r->Hy qs as->Hy (some (n,k,vs,H)::qs) (a::as)
theorem Hy.app(h:Hy q1 a1)(h':Hy q2 a2):Hy (q1++q2) (a1++a2):=by
 induction h with
 |nil=>exact h'
 |cons e _ ih=>exact .cons e ih
theorem bL(h:Hy qs as): ∀x,(nq x as).1=qs->x.int rn=(nq x as).2.int rn:=by
 induction h with
 |nil=>exact λU U=>rfl
 |cons e _ ih=>exact λx q=>uM (Ki q).1 e (ih _ (Ki q).2)
theorem seen{β:Type}{S:List Nat}{vs:List V}{f:Res->Option β}{b:β}(g: ∀x,f x=some b->x.int rn=x)(hy:Hy qs as)(e:((nq (oU S n k vs H) as).1,f (nq (oU S n k vs H) as).2)=(qs,some b))(h:autoParam (eh 1000 k=false) hZ._auto_4):f (rn n k vs H)=some b:=by
 obtain ⟨e1,e2⟩:=kj e;rw [go S ((bL hy _ e1).trans (g _ e2)) h];exact e2
theorem gL(h:uP x=some b):x.int rn=x:=by rcases x with _|_<;>first|rfl|exact bw h
theorem gX(h:zB x=some b):x.int rn=x:=by rcases x with _|_<;>first|rfl|exact bw h
noncomputable def vec:List (List Nat):=[]::([0,1,2].flatMap λa=>[a]::[0,1,2].flatMap λb=>[a,b]::[0,1,2].map λc=>[a,b,c])
theorem Ss(h:a=0\/a=1\/a=2):a∈[0,1,2]:=by rcases h with rfl|rfl|rfl<;>decide
theorem GD(hl:l.length<=3)(h: ∀w∈l,w=0\/w=1\/w=2):l∈vec:=by
 cases l with
 |nil=>exact bj
 |cons a l=>
  refine cb _ (ka.mpr ⟨a,Ss (h a bj),?_⟩);cases l with
  |nil=>exact bj
  |cons b l=>
   refine cb _ (ka.mpr ⟨b,Ss (h b (cb _ bj)),?_⟩);cases l with
   |nil=>exact bj
   |cons c l=>induction l with
    |nil=>exact cb _ (dy.mpr ⟨c,Ss (h c (cb _ (cb _ bj))),rfl⟩)
    |cons d l=>exact absurd (uj (uj (uj hl))) (Nat.not_succ_le_zero _)
noncomputable def nR:List Nat:=[82]
noncomputable def nT:List Nat:=[84]
noncomputable def nK:List Nat:=[75]
noncomputable def nU:List Nat:=[85]
def bM:List (List Nat×List V×Nat):=[(uV,[],13),(uV,[qR],13),(uW,[],16),(uW,[qR],16),(nR,[],7),(nT,[],22),(nT,[qR],22),(nK,[],26),(nK,[qR],26),(nU,[],29),(nU,[qR],29),(zy,[Z0],42),(zy,[AW],36)]
def fQ:List (List Nat×List V):=[(uV,[AW]),(uW,[AW]),(nR,[qR]),(nR,[AW]),(nT,[AW]),(nK,[AW]),(nU,[AW]),(KC,[]),(KC,[qR]),(KC,[AW]),(zy,[])]
noncomputable def deep(i:Nat):Nat:=cond (bo i 22) 1 (cond (bo i 26) 1 (cond (bo i 29) 2 0))
noncomputable def isNum(i:Nat):Bool:=cond (bo i 16) true (cond (bo i 26) true (cond (bo i 42) true (bo i 36)))
def Ui:V:=.tup [rf uV [] [] .none,nb 1]
def parts:List V:=[.none,.tup [nb 1,.none],.tup [nb 1,nb 1],Ui]
section
variable(k:Nat)(n c:Int)(m:List Nat)
theorem f1:bM.map (λx=>rn (k+12) 1 [.ref 1,.str x.1,.tup x.2.1] (W n c m))=bM.map λx=>.ok (.val (.ref x.2.2)) (W n c m):=by kernel_rfl
noncomputable def Uj(x:Res):Option (V×Hp):=match x with| .exc 0 w H=>some (w,H)|_=>.none
def Uk(x:List Nat×List V):V:=.str ((cond (bP x.1 zy) [97,110,32,97,109,98,105,103,117,111,117,115,32,110,97,109,101,58,32] [97,110,32,117,110,107,110,111,119,110,32,110,97,109,101,58,32])++x.1)
theorem f1x:fQ.map (λx=>Uj (rn (k+12) 1 [.ref 1,.str x.1,.tup x.2] (W n c m)))=fQ.map λx=>some (Uk x,W n c m):=by kernel_rfl
theorem f8:bM.map (λx=>uP (rn (k+12) 8 [.ref x.2.2] (W n c m)))=bM.map λx=>some (deep x.2.2,W n c m):=by kernel_rfl
theorem Z1(ss:List V)(pt:V):bM.map (λx=>(rn (k+1) 24 [.ref 1,rf x.1 x.2.1 ss pt] (W n c m),rn (k+1) 64 [.ref 48,rf x.1 x.2.1 ss pt] (W n c m)))=bM.map λU=>(.ok (.val (.bool false)) (W n c m),.ok (.val (.bool false)) (W n c m)):=by kernel_rfl
theorem Ul(ss:List V)(pt:V):fQ.map (λx=>(rn (k+1) 24 [.ref 1,rf x.1 x.2 ss pt] (W n c m),rn (k+1) 64 [.ref 48,rf x.1 x.2 ss pt] (W n c m)))=fQ.map λU=>(.ok (.val (.bool false)) (W n c m),.ok (.val (.bool false)) (W n c m)):=by kernel_rfl
end
def aL(k:Nat)(f:Nat->V)(H:Hp):mO:=.ok (.own (.list (bB k f))) H
def aS(H:Hp)(l_:List Nat):(Nat->Nat->V)->List mO:=l_.rec (λU=>[]) λw U ih g=>aL (cond (bo w 0) 1 0) (g 0) H::ih λi=>g (i+1)
noncomputable def qS(k:Nat)(H:Hp)(l_:Nat):(Nat->V)->List Qn:=l_.rec (λU=>[]) λU ih a=>some (k,32,[.ref 1,a 0],H)::ih λi=>a (i+1)
noncomputable abbrev AX{α:Type}(a:α)(f:Nat->α)(i:Nat):α:=@Nat.rec (λU=>α) a (λi U=>f i) i
structure Rows(t:Nat)(ss:List (V×Nat)):Prop where
 s: ∀p∈ss,Sub p.1 p.2 t
 l:ss.length<=3
theorem Rows.vec(h:Rows t ss):ss.map (λU=>U.2)∈vec:=GD (by rw [df];exact h.l) λw hw=>by obtain ⟨p,hp,rfl⟩:=dy.mp hw;exact (h.s p hp).c
section
variable(k:Nat)(n c:Int)(m:List Nat){t:Nat}
theorem KG{ss:List (V×Nat)}(h: ∀p∈ss,Sub p.1 p.2 t): ∃a g,ss.map (λU=>U.1)=bB (ss.map (λU=>U.2)).length a/\Hy (qS (k+20) (W n c m) (ss.map (λU=>U.2)).length a) (aS (W n c m) (ss.map (λU=>U.2)) g):=by
 induction ss with
 |nil=>exact ⟨λU=>.none,λU U=>.none,rfl,.nil⟩
 |cons p ss ih=>
  refine ae λaA=>?_;obtain ⟨a,g,e,hy⟩:=ih λp hp=>h p (cb _ hp);obtain ⟨f,hf⟩:=(h p bj).flt k n c m;refine aA ?_;exact ⟨AX p.1 a,AX f g,congrArg (λU=>p.1::U) e,.cons hf hy⟩
noncomputable def pE:V->List (V×Nat)
 | .tup [a,.none]=>[(a,0)]
 | .tup [a,b]=>[(a,cond (isStr a) 1 0),(b,0)]
 |_=>[]
where isStr:V->Bool| .tup (.str (114::_)::_)=>true|_=>false
def pF(pt:V):Nat:=((pE pt).map (λU=>U.2)).sum
def qP(k:Nat)(H:Hp)(pt:V):List Qn:=(pE pt).map λp=>some (k,32,[.ref 1,p.1],H)
def aP(H:Hp)(pt:V)(f:Nat->V):List mO:=(pE pt).map λp=>aL p.2 f H
theorem PV:uP (rn (k+20) 32 [.ref 1,rf uV [] [] .none] (W n c m))=some (1,W n c m):=by kernel_rfl
theorem PW:rn (k+20) 32 [.ref 1,nb 1] (W n c m)=.ok (.own (.list [])) (W n c m):=by kernel_rfl
theorem KH: ∃f, ∀pt∈parts,Hy (qP (k+20) (W n c m) pt) (aP (W n c m) pt f):=by
 obtain ⟨f,hf⟩:=k7 (PV k n c m);have h1:=PW k n c m;refine ⟨f,λpt hp=>?_⟩;simp only [parts,de,eP,or_false] at hp;rcases hp with rfl|rfl|rfl|rfl
 ·exact .nil
 ·exact .cons h1 .nil
 ·exact .cons h1 (.cons h1 .nil)
 ·exact .cons hf (.cons h1 .nil)
noncomputable def Cl:List (Option Nat):=[none,some 0,some 1,some 2]
noncomputable def zs(ws:List Nat):Nat:=(ws.map λw=>cond (bo w 0) 1 0).sum
def many(cl:Option Nat)(ws:List Nat)(pt:V):Nat:=match cl with
 |none=>zs ws+pF pt+1
 |some d=>zs ws+pF pt+cond (bo ws.length d) 0 1
def aC(H:Hp)(w:V)(i:Nat)(f:Nat->V):Option Nat->List mO
 |none=>[.exc 0 w H]
 |some d=>[.ok (.val (.ref i)) H,aL d f H]
noncomputable def qC(k:Nat)(H:Hp)(nm:List Nat)(q:List V)(i:Nat):Option Nat->List Qn
 |none=>[some (k,1,[.ref 1,.str nm,.tup q],H)]
 |some _=>[some (k,1,[.ref 1,.str nm,.tup q],H),some (k,8,[.ref i],H)]
theorem f27(nm:List Nat)(q:List V)(i:Nat)(w:V)(a:Nat->V)(g:Nat->Nat->V)(f f':Nat->V):
  Cl.map (λcl=>parts.map λpt=>vec.map λws=>let T:=nq (oU [1,8,24,32] (k+23) 27 [.ref 1,rf nm q (bB ws.length a) pt] (W n c m)) (.ok (.val (.bool false)) (W n c m)::(aS (W n c m) ws g++(aP (W n c m) pt f++aC (W n c m) w i f' cl)));(T.1,uP T.2))=
  Cl.map λcl=>parts.map λpt=>vec.map λws=>(some (k+22,24,[.ref 1,rf nm q (bB ws.length a) pt],W n c m)::(qS (k+20) (W n c m) ws.length a++(qP (k+20) (W n c m) pt++qC (k+21) (W n c m) nm q i cl)),some (many cl ws pt,W n c m)):=by kernel_rfl
variable{k n c m}
theorem Um(x:List Nat×List V×Nat)(hx:x∈bM): ∃w f,Hy (qC (k+21) (W n c m) x.1 x.2.1 x.2.2 (some (deep x.2.2))) (aC (W n c m) w x.2.2 f (some (deep x.2.2))):=by
 obtain ⟨f,hf⟩:=k7 (ai (f8 (k+9) n c m) hx);exact ⟨.none,f,.cons (ai (f1 (k+9) n c m) hx) (.cons hf .nil)⟩
theorem Yr(h:Uj x=some (w,H)):x=.exc 0 w H:=by
 induction x with
 |exc e v G=>induction e with
  |zero=>obtain ⟨rfl,rfl⟩:=kj (ag h);rfl
  |succ e=>exact bw h
 |_=>exact bw h
theorem GF(k:Nat)(n c:Int)(m:List Nat): ∀x∈fQ, ∃w,rn (k+12) 1 [.ref 1,.str x.1,.tup x.2] (W n c m)=.exc 0 w (W n c m):=λx hx=>⟨_,Yr (ai (f1x k n c m) hx)⟩
theorem PX(x:List Nat×List V)(hx:x∈fQ): ∃w f,Hy (qC (k+21) (W n c m) x.1 x.2 0 none) (aC (W n c m) w 0 f none):=by
 obtain ⟨w,h⟩:=GF (k+9) n c m x hx;exact ⟨w,λU=>.none,.cons h .nil⟩
theorem Ma(hcl:cl∈Cl)(h:Rows t ss){pt:V}(hp:pt∈parts)(Z2:rn (k+22) 24 [.ref 1,rf nm q (ss.map (λU=>U.1)) pt] (W n c m)=.ok (.val (.bool false)) (W n c m))
  (hC: ∃w f,Hy (qC (k+21) (W n c m) nm q i cl) (aC (W n c m) w i f cl)):zA (many cl (ss.map (λU=>U.2)) pt) (rn (k+23) 27 [.ref 1,rf nm q (ss.map (λU=>U.1)) pt] (W n c m)) (W n c m):=by
 refine ae λaA=>?_;obtain ⟨a,g,e,hs⟩:=KG k n c m h.s;obtain ⟨f,hf⟩:=KH k n c m;obtain ⟨w,f',hC⟩:=hC;refine aA ?_;rw [e] at Z2 ⊢;exact k7 (seen (λU=>gL) (.cons Z2 (hs.app ((hf pt hp).app hC))) (ai (ai (ai (f27 k n c m nm q i w a g f f') hcl) hp) h.vec))
end
noncomputable def Un:V->Bool| .none=>true|_=>false
def gP(i:Nat)(pt:V):Bool:=band (isNum i) (Un pt)
def gB(i:Nat)(ws:List Nat)(pt:V):Bool:=cond (bo (many (some (deep i)) ws pt) 0) (gP i pt) false
noncomputable def Uo:List Nat:=[110,117,109,101,114,105,99]
def KI(b:Bool):V:=cond b (.tup [.str Uo,.str [101,100,105,116,101,100]]) (.tup [.str Uo])
noncomputable abbrev bools:List Bool:=[true,false]
theorem jA(b:Bool):b∈bools:=by rcases b with _|_<;>decide
noncomputable abbrev KJ:List Nat:=[1,2,3,4,5]
structure xe(k:Nat)(H:Hp)(v:V)(g:Bool):Prop where
 l: ∃N,zA N (rn k 28 [.ref 1,v] H) H/\aT N 6=true/\(N≠0->g=false)/\(N=0->rn k 31 [.ref 1,v] H=.ok (.val (.bool g)) H)
 n: ∃s,rn k 33 [v] H=.ok (.val s) H
def Uq(k:Nat)(H:Hp)(v:V)(g:Bool):Prop:= ∀b, ∃N,zA N (rn k 34 [.ref 1,v,KI b] H) H/\aT N 6=true/\bo N 0=g
section
variable{k:Nat}{n c:Int}{m:List Nat}{t:Nat}{ss:List (V×Nat)}{pt:V}
theorem f31(k:Nat)(n c:Int)(m:List Nat)(ss:List V):bM.map (λx=>parts.map λpt=>rn (k+24) 31 [.ref 1,rf x.1 x.2.1 ss pt] (W n c m))=bM.map λx=>parts.map λpt=>.ok (.val (.bool (gP x.2.2 pt))) (W n c m):=by kernel_rfl
theorem AY:Cl.map (λcl=>parts.map λpt=>vec.map λws=>aT (many cl ws pt) 6)=Cl.map λU=>parts.map λU=>vec.map λU=>true:=by kernel_rfl
theorem Ys(k:Nat)(n c:Int)(m:List Nat)(r:V)(f:Nat->V):KJ.map (λN=>bools.map λb=>let T:=nq (oU [27] (k+24) 34 [.ref 1,r,KI b] (W n c m)) [aL N f (W n c m)];(T.1,uP T.2))=KJ.map λN=>bools.map λU=>([some (k+23,27,[.ref 1,r],W n c m)],some (N,W n c m)):=by kernel_rfl
theorem Yt(k:Nat)(n c:Int)(m:List Nat)(ss:List V)(f:Nat->V):bM.map (λx=>parts.map λpt=>bools.map λb=>let T:=nq (oU [27] (k+24) 34 [.ref 1,rf x.1 x.2.1 ss pt,KI b] (W n c m)) [aL 0 f (W n c m)];(T.1,uP T.2))=
  bM.map λx=>parts.map λpt=>bools.map λU=>([some (k+23,27,[.ref 1,rf x.1 x.2.1 ss pt],W n c m)],some (cond (gP x.2.2 pt) 0 1,W n c m)):=by kernel_rfl
theorem Ur{N:Nat}(h:N≠0):bo N 0=false:=by induction N with|zero=>exact (h rfl).elim|succ N=>rfl
theorem Z3(h:aT N 6=true)(h0:N≠0):N∈KJ:=by
 match N,h0,h with
 |1,_,_=>decide
 |2,_,_=>decide
 |3,_,_=>decide
 |4,_,_=>decide
 |5,_,_=>decide
 |N+6,_,h=>exact absurd (aZ h) (px.mpr (ky _ _))
theorem Us(e:v=rf nm q l pt)(h:zA N (rn (k+23) 27 [.ref 1,v] (W n c m)) (W n c m)):zA N (rn (k+24) 28 [.ref 1,v] (W n c m)) (W n c m):=by
 subst e;obtain ⟨f,h⟩:=h;exact ⟨f,go [27] (st h ok)⟩
theorem GG(h:zA N (rn (k+23) 27 [.ref 1,rf nm q l pt] (W n c m)) (W n c m))(hN:aT N 6=true)(h0:N≠0):Uq (k+24) (W n c m) (rf nm q l pt) false:=λb=>by
 obtain ⟨f,h⟩:=h;exact ⟨N,k7 (seen (λU=>gL) (.cons h .nil) (ai (ai (Ys k n c m (rf nm q l pt) f) (Z3 hN h0)) (jA b))),hN,Ur h0⟩
theorem Mb(i:Nat):some (deep i)∈Cl:=by
 unfold deep;cases bo i 22<;>cases bo i 26<;>cases bo i 29<;>decide
variable(h:Rows t ss)(hp:pt∈parts)
include h hp
theorem AZ(hx:x∈bM):zA (many (some (deep x.2.2)) (ss.map (λU=>U.2)) pt) (rn (k+23) 27 [.ref 1,rf x.1 x.2.1 (ss.map (λU=>U.1)) pt] (W n c m)) (W n c m)/\aT (many (some (deep x.2.2)) (ss.map (λU=>U.2)) pt) 6=true:=
 ⟨Ma (i:=x.2.2) (Mb _) h hp (congrArg (λU=>U.1) (ai (Z1 (k+21) n c m (ss.map (λU=>U.1)) pt) hx)) (Um x hx),ai (ai (ai AY (Mb _)) hp) h.vec⟩
theorem GH(hx:x∈fQ):zA (many none (ss.map (λU=>U.2)) pt) (rn (k+23) 27 [.ref 1,rf x.1 x.2 (ss.map (λU=>U.1)) pt] (W n c m)) (W n c m)/\aT (many none (ss.map (λU=>U.2)) pt) 6=true:=
 ⟨Ma (i:=0) bj h hp (congrArg (λU=>U.1) (ai (Ul (k+21) n c m (ss.map (λU=>U.1)) pt) hx)) (PX x hx),ai (ai (ai AY bj) hp) h.vec⟩
theorem nO(hx:x∈bM):xe (k+24) (W n c m) (rf x.1 x.2.1 (ss.map (λU=>U.1)) pt) (gB x.2.2 (ss.map (λU=>U.2)) pt):=by
 obtain ⟨h1,h2⟩:=AZ (k:=k) (n:=n) (c:=c) (m:=m) h hp hx;have h3:=ai (ai (f31 k n c m (ss.map (λU=>U.1))) hx) hp;refine ⟨⟨_,Us rfl h1,h2,λh0=>?_,λh0=>?_⟩,_,go [] (ok (r:=.val (.str x.1)))⟩
 ·unfold gB;rw [Ur h0];rfl
 ·unfold gB;rw [h0];exact h3
theorem zC(hx:x∈fQ):xe (k+24) (W n c m) (rf x.1 x.2 (ss.map (λU=>U.1)) pt) false:=by
 obtain ⟨h1,h2⟩:=GH (k:=k) (n:=n) (c:=c) (m:=m) h hp hx;exact ⟨⟨_,Us rfl h1,h2,λU=>rfl,λh0=>nomatch h0⟩,_,go [] (ok (r:=.val (.str x.1)))⟩
theorem nP(hx:x∈bM):Uq (k+24) (W n c m) (rf x.1 x.2.1 (ss.map (λU=>U.1)) pt) (gB x.2.2 (ss.map (λU=>U.2)) pt):=by
 obtain ⟨h1,h2⟩:=AZ (k:=k) (n:=n) (c:=c) (m:=m) h hp hx;unfold gB;cases q:bo (many (some (deep x.2.2)) (ss.map (λU=>U.2)) pt) 0 with
 |false=>exact GG h1 h2 (Ap q)
 |true=>
  rw [cq q] at h1;obtain ⟨f,h1⟩:=h1;intro b;have e:=ai (ai (ai (Yt k n c m (ss.map (λU=>U.1)) f) hx) hp) (jA b);refine ⟨cond (gP x.2.2 pt) 0 1,k7 (seen (S:=[27]) (as:=[aL 0 f (W n c m)]) (λU=>gL) (.cons h1 .nil) e),?_⟩;show aT (cond (gP x.2.2 pt) 0 1) 6=true/\bo (cond (gP x.2.2 pt) 0 1) 0=gP x.2.2 pt;cases gP x.2.2 pt<;>exact ⟨rfl,rfl⟩
theorem zD(hx:x∈fQ):Uq (k+24) (W n c m) (rf x.1 x.2 (ss.map (λU=>U.1)) pt) false:=by
 obtain ⟨h1,h2⟩:=GH (k:=k) (n:=n) (c:=c) (m:=m) h hp hx;exact GG h1 h2 λh=>nomatch h
end
def xg{α:Type}(x_:Out α)(l_:List mO):List Qn×Out α:=(l_.rec (λx=>([],x)) (λa U ih x=>(x.q::(ih (x.to a)).1,(ih (x.to a)).2)):Out α->List Qn×Out α) x_
theorem uQ(h:Hy qs as): ∀x:Out α,(xg x as).1=qs->x.int rn=(xg x as).2.int rn:=by
 induction h with
 |nil=>exact λU U=>rfl
 |cons e _ ih=>exact λx q=>AR (Ki q).1 e (ih _ (Ki q).2)
theorem kB{S:List Nat}{m:M α}(hm:Nt m){a:α}(hy:Hy qs as)(e:xg (m (rs S n) ρ H) as=(qs,.ok a ρ' H')):m (rn n) ρ H=.ok a ρ' H':=
 Gx S hm ((uQ hy _ (congrArg (λU=>U.1) e)).trans (by (rewrite [congrArg (λU=>U.2) e];try with_reducible rfl);rfl))
def Hu(k i:Nat):Pw false (uU (aH gk rD k)) false:=lq (Px TL 39 false (uU (aH gk rD k)) false) (wW (xP (C3 (aH gk rD k)) i)).l
theorem e32:(Hu 32 1).m=C4:=by kernel_rfl
theorem n32:Nt (br C4):=iT (e32▸(Hu 32 1).nt)
noncomputable def fu(L:Nat->V)(j:Nat)(v:V)(i:Nat):V:=cond (bo i j) v (L i)
noncomputable def ap(F:Nat->V)(i:Nat)(f:Nat->V)(t:Nat):V:=cond (gp t i) (F t) (f (t-i))
noncomputable def heads:List (List Nat):=[[114,101,102],[110,117,109,98,101,114],[102,105,103,117,114,101],[116,101,120,116],[97,108,108]]
def LH(v:V):Prop:= ∃h∈heads, ∃r,v=.tup (.str h::r)
noncomputable def sx(s:Nat)(u:V):Slot:=cond (bo s 0) .empty (.val u)
noncomputable def sy(s:Nat)(l:List V):Slot:=cond (bo s 2) (.own (.list l)) .empty
def zE(e:V)(F L:List V)(s:Nat)(u:V)(l:List V):Env:=[.val (.ref 1),.val e,.own (.list F),.own (.list L),sx s u,sy s l,.empty,.empty,.empty,.empty]
noncomputable def cls:List (Nat×Bool):=[(0,true),(0,false),(1,false),(2,false),(3,false),(4,false),(5,false)]
def a32(H:Hp)(f:Nat->V)(z:V)(x:Nat×Bool):List mO:=aL x.1 f H::cond (bo x.1 0) (.ok (.val (.bool x.2)) H::cond x.2 [] [.ok (.val z) H]) []
noncomputable def Z4(k:Nat)(H:Hp)(v:V)(x:Nat×Bool):List Qn:=some (k,28,[.ref 1,v],H)::cond (bo x.1 0) (some (k,31,[.ref 1,v],H)::cond x.2 [] [some (k,33,[v],H)]) []
noncomputable def noN:V:=.str [110,111,32,110,117,109,98,101,114]
noncomputable def GI(x:Nat×Bool):Nat:=cond (bo x.1 0) (cond x.2 0 1) x.1
def Ut(x:Nat×Bool)(f:Nat->V)(z:V)(t:Nat):V:=cond (bo x.1 0) (.tup [noN,z]) (f t)
theorem PY(k:Nat)(H:Hp)(e u z:V)(r:List V)(F L f:Nat->V)(l:List V):
  heads.map (λh=>(cc 3).map λs=>(cc 4).map λj=>(cc 16).map λi=>cls.map λx=>xg (br C4 (rs [28,31,33] k) (zE e (bB i F) (bB (j+1) (fu L j (.tup (.str h::r)))) s u l) H) (a32 H f z x))=
  heads.map λh=>(cc 3).map λs=>(cc 4).map λj=>(cc 16).map λi=>cls.map λx=>(Z4 k H (.tup (.str h::r)) x,.ok .next (zE e (bB (i+GI x) (ap F i (Ut x f z))) (bB j L) 2 (.tup (.str h::r)) (bB x.1 f)) H):=by kernel_rfl
inductive Tr where
 |leaf (v:V) (g:Bool)
 |neg (a:Tr)
 |bin (o:List Nat) (a b:Tr)
noncomputable def jB:List Nat:=[110,101,103]
noncomputable def ops:List (List Nat):=[[43],[45],[42]]
noncomputable def Tr.v:Tr->V
 | .leaf v _=>v
 | .neg a=>.tup [.str jB,a.v]
 | .bin o a b=>.tup [.str o,a.v,b.v]
noncomputable def Tr.good:Tr->Bool
 | .leaf _ g=>g
 | .neg a=>a.good
 | .bin _ a b=>band a.good b.good
noncomputable def Tr.size:Tr->Nat
 | .leaf _ _=>1
 | .neg a=>a.size+1
 | .bin _ a b=>b.size+a.size+1
noncomputable def Tr.nl:Tr->Nat
 | .leaf _ _=>1
 | .neg a=>a.nl
 | .bin _ a b=>a.nl+b.nl
noncomputable def Tr.dp:Tr->Nat
 | .leaf _ _=>0
 | .neg a=>a.dp
 | .bin _ a b=>sk (a.dp+1) b.dp
noncomputable def Tr.All(P:V->Bool->Prop):Tr->Prop
 | .leaf v g=>LH v/\P v g
 | .neg a=>a.All P
 | .bin o a b=>o∈ops/\a.All P/\b.All P
def A9(k:Nat)(H:Hp)(v:V)(g:Bool):Prop:= ∃x∈cls,x.2=g/\ ∃f z,Hy (Z4 k H v x) (a32 H f z x)
theorem PZ:cls.map (λx=>(bo (GI x) 0,aT (GI x) 6))=cls.map λx=>(x.2,true):=by kernel_rfl
noncomputable def s1(s:Nat):Nat:=cond (bo s 0) 1 s
section
variable(k:Nat)(H:Hp)(e u:V)(F:List V)(L:Nat->V)(l:List V)
theorem GJ:(cc 3).map (λs=>(cc 5).map λj=>QI (rn k) (zE e F (bB j L) s u l) H)=(cc 3).map λs=>(cc 5).map λj=>.ok (cond (bo j 0) false true) (zE e F (bB j L) s u l) H:=by kernel_rfl
theorem Uu(a:V):(cc 3).map (λs=>(cc 4).map λj=>br C4 (rn k) (zE e F (bB (j+1) (fu L j (.tup [.str jB,a]))) s u l) H)=(cc 3).map λs=>(cc 4).map λj=>.ok .next (zE e F (bB (j+1) (fu L j a)) (s1 s) (.tup [.str jB,a]) l) H:=by kernel_rfl
theorem Uv(a b:V):ops.map (λo=>(cc 3).map λs=>(cc 3).map λj=>br C4 (rn k) (zE e F (bB (j+1) (fu L j (.tup [.str o,a,b]))) s u l) H)=ops.map λo=>(cc 3).map λs=>(cc 3).map λj=>.ok .next (zE e F (bB (j+2) (fu (fu L j b) (j+1) a)) (s1 s) (.tup [.str o,a,b]) l) H:=by kernel_rfl
end
theorem bne{a b:Nat}(h:a≠b):bo a b=false:=by
 cases q:bo a b with
 |true=>exact (h (cq q)).elim
 |false=>rfl
theorem Mc(h:s<3):s1 s<3:=by
 unfold s1;cases bo s 0
 ·exact h
 ·exact (by decide:1<3)
theorem KL:bo (i+a) i=bo a 0:=by
 induction a with
 |zero=>exact lL i
 |succ a=>exact (bne (vl (kl (mf a)))).trans rfl
theorem KN(h:i<=a)(h':a<=b):bo b i=band (bo a i) (bo b a):=by
 cases q:bo a i with
 |true=>rw [cq q];rfl
 |false=>exact bne λe=>Ap q (Hd (e▸h') h)
theorem rg(h:s<n):s∈cc n:=rp.mpr h
section
variable{k:Nat}{H:Hp}{e:V}
theorem KO(hs:s<3)(hj:j<4)(hb:br C4 (rn k) (zE e F (bB (j+1) L) s u l) H=.ok .next ρ H):whileLoop (n+1) QI (br C4) (rn k) (zE e F (bB (j+1) L) s u l) H=whileLoop n QI (br C4) (rn k) ρ H:=
 kZ (ai (ai (GJ k H e u F L l) (rg hs)) (rg (Ee hj))) hb
inductive QN(k:Nat)(H:Hp)(e:V)(o:Out Flow)(n i j:Nat)(F L:Nat->V):Prop
 |mk {s:Nat} {u:V} {l:List V}:s<3->whileLoop n QI (br C4) (rn k) (zE e (bB i F) (bB j L) s u l) H=o->QN k H e o n i j F L
inductive Z5(k:Nat)(H:Hp)(e:V)(o:Out Flow)(n j:Nat)(L:Nat->V)(i b:Nat)(g:Bool):Prop
 |mk {i':Nat} {F':Nat->V}:QN k H e o n i' j F' L->i<=i'->i'<=i+b->bo i' i=g->Z5 k H e o n j L i b g
theorem QN.step(w:QN k H e o (n+1) i (j+1) F L)(hj:j<4)(h: ∀s∈cc 3, ∀u l, ∃s' u' l',s'<3/\br C4 (rn k) (zE e (bB i F) (bB (j+1) L) s u l) H=.ok .next (zE e (bB i' F') (bB j' L') s' u' l') H):QN k H e o n i' j' F' L':=by
 induction w with|@mk s u l hs w=>
 obtain ⟨s',u',l',h1,h2⟩:=h s (rg hs) u l;exact .mk h1 ((KO hs hj h2).symm.trans w)
theorem P0(T:Tr):T.All (A9 k H)-> ∀(i j n:Nat) (F L:Nat->V),j+T.dp<=3->i+5*T.nl<=20->QN k H e o (n+T.size) i (j+1) F (fu L j T.v)->Z5 k H e o n j L i (5*T.nl) T.good:=by
 induction T with
 |leaf v g=>
  intro h i j n F L hj hi w;refine ae λhG=>?_;obtain ⟨⟨h,hh,r,rfl⟩,x,hx,rfl,f,z,hy⟩:=h;refine hG ?_;have hj:=fo hj;have hi:i<16:=fo (Kb (b:=5) hi);have ha:=ai PZ hx;exact .mk (w.step hj λs hs u l=>⟨2,_,_,by decide,kB n32 hy (ai (ai (ai (ai (ai (PY k H e u z r F L f l) hh) hs) (rg hj)) (rg hi)) hx)⟩) (cw _ _) (dV (og (aZ (congrArg (λU=>U.2) ha))) _) (KL.trans (congrArg (λU=>U.1) ha))
 |neg a ih=>
  intro h i j n F L hj hi w;have hj':=fo (bt (cw _ _) hj);exact ih h i j n F L hj hi (w.step hj' λs hs u l=>⟨_,_,_,Mc (rp.mp hs),ai (ai (Uu k H e u (bB i F) L l a.v) hs) (rg hj')⟩)
 |bin c a b P6 Uw=>
  intro h i j n F L hj hi w;have ho:=h.1;have ha:=h.2.1;have hb:=h.2.2;have d1:j+1+a.dp<=3:=by rw [hY];exact bt (dV (QR (a.dp+1) b.dp) j) hj
  have hj':j<3:=bt (cw _ _) d1;have hi:i+5*a.nl+5*b.nl<=20:=by rw [fw, <-BM];exact hi
  have w1:=w.step (n:=n+(b.size+a.size)) (lj hj') λs hs u l=>⟨_,_,_,Mc (rp.mp hs),ai (ai (ai (Uv k H e u (bB i F) L l a.v b.v) ho) hs) (rg hj')⟩;rw [<-fw] at w1;induction P6 ha i (j+1) (n+b.size) F (fu L j b.v) d1 (bt (cw _ _) hi) w1 with
  |mk w2 r2 r3 r4=>
   induction Uw hb _ j n _ L (bt (dV (PH (a.dp+1) b.dp) j) hj) (bt (eM r3 _) hi) w2 with
   |mk w3 t2 t3 t4=>
    refine .mk w3 (bt r2 t2) ?_ ?_
    ·rw [show 5*(Tr.bin c a b).nl=5*a.nl+5*b.nl from BM _ _ _, <-fw];exact bt t3 (eM r3 _)
    ·rw [KN r2 t2,r4,t4];rfl
end
theorem GK(h:xe k H v g):A9 k H v g:=by
 obtain ⟨⟨N,⟨f,h1⟩,h2,h3,h4⟩,s,h5⟩:=h;induction N with
 |zero=>
  refine ⟨(0,g),by rcases g with _|_<;>decide,rfl,f,s,?_⟩;rcases g with _|_
  ·exact .cons h1 (.cons (h4 rfl) (.cons h5 .nil))
  ·exact .cons h1 (.cons (h4 rfl) .nil)
 |succ N=>
  have hg:g=false:=h3 (DD N);subst hg;have hx: ∀M∈KJ,(M,false)∈cls:=by decide
  exact ⟨(N+1,false),hx _ (Z3 h2 (DD N)),rfl,f,s,.cons h1 .nil⟩
theorem g32{T:Tr}(h:T.All (A9 k H))(hd:T.dp<=3)(hn:T.nl<=4)(hs:T.size<=100): ∃i,zA i (rn (k+1) 32 [.ref 1,T.v] H) H/\i<=20/\bo i 0=T.good:=by
 obtain ⟨n,hf⟩:=uN hs rfl;cases P0 (e:=T.v) (n:=n+1) T h 0 0 (λU=>.none) (λU=>.none) (by rw [fb];exact hd) (by rw [fb];exact il 5 hn) (.mk (s:=0) (u:=.none) (l:=[]) (by decide) (hf▸rfl:_=whileLoop cJ QI (br C4) (rn k) (zE T.v (bB 0 λU=>.none) (bB 1 (fu (λU=>.none) 0 T.v)) 0 .none []) H)) with
 |@mk i F w _ q3 q4=>induction w with
  |@mk s u l q1 q=>
   refine ⟨i,⟨F,?_⟩,by rw [fb] at q3;exact bt q3 (il 5 hn),q4⟩;exact congrArg eB ((bQ (show aH cF ZM.body 0 (rn k) _ H=.ok .next (zE T.v (bB 0 λU=>.none) (bB 1 (fu (λU=>.none) 0 T.v)) 0 .none []) H by kernel_rfl)).trans ((bQ (q.symm.trans (iG (ai (ai (GJ k H T.v u (bB i F) (λU=>.none) l) (rg q1)) (rg (show 0<5 by decide)))))).trans rfl))
section
variable{cf:CF}{ρ CW:Env}{H H1:Hp}{t:T}{b:fF}{l:List V}{v w:V}{n k i:Nat}
def dW(t:T)(v:V)(b:fF):fF:=aF (t (.val v)) λU=>b
theorem uR(ht:xr t)(hb:Nt b):Nt (dW t v b):=aM (ht _) λU=>hb
theorem zF:forLoop (n+1) k t s b cf ρ H=sY s k H (.ok .next ρ H) λv=>(dW t v b cf ρ H).bind λf ρ H=>turn f (forLoop n (k+1) t s b cf ρ H) ρ H:=rfl
theorem zG(h:aU l k=x):sY (.vals l) k H e f=Hi x f e:=by
 subst h;show oB (some (aU l k)) _=_;cases aU l k<;>rfl
theorem oV(hv:aU l k=some v)(h:dW t v b cf ρ H=.ok .next CW H1)(g:forLoop n (k+1) t (.vals l) b cf CW H1=o):forLoop (n+1) k t (.vals l) b cf ρ H=o:=by
 rw [zF,zG hv, <-g];show (dW t v b cf ρ H).bind _=_;rw [h];rfl
theorem KP(hv:aU l k=some v)(h:dW t v b cf ρ H=.exc i w CW H1):forLoop (n+1) k t (.vals l) b cf ρ H=.exc i w CW H1:=by
 rw [zF,zG hv];show (dW t v b cf ρ H).bind _=_;rw [h];rfl
theorem mD(hv:aU l k=.none):forLoop (n+1) k t (.vals l) b cf ρ H=.ok .next ρ H:=by
 rw [zF,zG hv];rfl
end
structure Row where
 ref:V
 rd:Bool
 way:List Nat
 g:Bool
noncomputable def Row.v(r:Row):V:=.tup [r.ref,.bool r.rd,.str r.way]
noncomputable def ways:List (List Nat):=[[61],[43],[45],[42],[47]]
noncomputable def sv(s:Bool)(v:V):Slot:=cond s (.val v) .empty
def KQ(e rr:V)(F:List V)(s:Bool)(x y z:V):Env:=[.val (.ref 1),.val e,.val rr,.own (.list F),sv s x,sv s y,sv s z,.empty,.empty,.empty]
abbrev QO:T:=dX [(aj 4),(aj 5),(aj 6)]
theorem n35(v:V):Nt (dW QO v (br LW)):=uR (F6 (fU (jy _) (fU (jy _) (fU (jy _) mw)))) (iT ((show (Hu 35 1).m=LW by kernel_rfl)▸(Hu 35 1).nt))
theorem Ux(k:Nat)(H:Hp)(e rr x y z r:V)(rd:Bool)(F f:Nat->V):ways.map (λw=>bools.map λs=>(cc 26).map λi=>(cc 6).map λN=>xg (dW QO (.tup [r,.bool rd,.str w]) (br LW) (rs [34] k) (KQ e rr (bB i F) s x y z) H) [aL N f H])=
  ways.map λw=>bools.map λs=>(cc 26).map λi=>(cc 6).map λN=>([some (k,34,[.ref 1,r,KI (bP w [61])],H)],.ok .next (KQ e rr (bB (i+N) (ap F i f)) true r (.bool rd) (.str w)) H):=by kernel_rfl
structure KR(k:Nat)(H:Hp)(r:Row):Prop where
 w:r.way∈ways
 p:Uq k H r.ref r.g
section
variable{k:Nat}{H:Hp}{e rr:V}
theorem GL(h:KR k H r)(hv:aU l j=some r.v)(hi:i<26)(s:Bool)(x y z:V)(F:Nat->V): ∃N f,aT N 6=true/\bo N 0=r.g/\
  forLoop (n+1) j QO (.vals l) (br LW) (rn k) (KQ e rr (bB i F) s x y z) H=forLoop n (j+1) QO (.vals l) (br LW) (rn k) (KQ e rr (bB (i+N) f) true r.ref (.bool r.rd) (.str r.way)) H:=by
 refine ae λaA=>?_;obtain ⟨N,⟨f,h1⟩,h2,h3⟩:=h.p (bP r.way [61]);refine aA ?_;exact ⟨N,ap F i f,h2,h3,oV hv (kB (n35 _) (.cons h1 .nil) (ai (ai (ai (ai (Ux k H e rr x y z r.ref r.rd F f) h.w) (jA s)) (rg hi)) (rg (aZ h2)))) rfl⟩
theorem qE:bo (a+b) 0=band (bo a 0) (bo b 0):=by
 induction a with
 |zero=>rw [fb];rfl
 |succ a=>rw [aaj];rfl
theorem Uy{P:Nat->Prop}(Uz:zA i (rn (k+1) 32 [.ref 1,v] H) H)(q: ∀F, ∃M f x y z,forLoop cJ 0 QO (.vals l) (br LW) (rn (k+1)) (KQ v (.tup l) (bB i F) false .none .none .none) H=.ok .next (KQ v (.tup l) (bB M f) true x y z) H/\P M): ∃M,zA M (rn (k+2) 35 [.ref 1,v,.tup l] H) H/\P M:=by
 refine ae λaA=>?_;obtain ⟨F,Uz⟩:=Uz;obtain ⟨M,f,x,y,z,q,p⟩:=q F;refine aA ?_;have e0:aH cF X5.body 0 (rn (k+1)) [.val (.ref 1),.val v,.val (.tup l),.empty,.empty,.empty,.empty,.empty,.empty,.empty] H=.ok .next (KQ v (.tup l) (bB i F) false .none .none .none) H:=kB (S:=[32]) (as:=[aL i F H]) (jP (k:=35) rfl _ bj) (.cons Uz .nil) (by kernel_rfl)
 have e1:aH cF X5.body 1 (rn (k+1)) (KQ v (.tup l) (bB i F) false .none .none .none) H=forLoop cJ 0 QO (.vals l) (br LW) (rn (k+1)) (KQ v (.tup l) (bB i F) false .none .none .none) H:=by kernel_rfl
 exact ⟨M,⟨f,congrArg eB ((bQ e0).trans ((bQ (e1.trans q)).trans rfl))⟩,p⟩
theorem g35{T:Tr}(h:T.All (A9 k H))(hd:T.dp<=3)(hn:T.nl<=4)(hs:T.size<=100)(hr:KR (k+1) H r)(r2:Option Row)(hr2: ∀x,r2=some x->KR (k+1) H x):
  ∃M,zA M (rn (k+2) 35 [.ref 1,T.v,.tup (r.v::(r2.elim [] λx=>[x.v]))] H) H/\bo M 0=band T.good (band r.g (r2.elim true (λU=>U.g))):=by
 refine ae λaA=>?_;obtain ⟨i,Uz,hi,hg⟩:=g32 h hd hn hs;refine aA ?_;refine Uy Uz λF=>?_;rw [<-hg];have hi':i<26:=dA hi (aw rfl);induction r2 with
 |none=>
  refine ae λb8=>?_;obtain ⟨N,f,a1,a2,a3⟩:=GL (e:=T.v) (rr:=.tup [r.v]) (n:=4095) (l:=[r.v]) (j:=0) hr rfl hi' false .none .none .none F;refine b8 ?_;exact ⟨i+N,f,_,_,_,a3.trans (mD rfl),by rw [qE,a2];show _=band _ (band r.g true);cases r.g<;>rfl⟩
 |some x=>
  refine ae λjT=>?_;obtain ⟨N,f,a1,a2,a3⟩:=GL (e:=T.v) (rr:=.tup [r.v,x.v]) (n:=4095) (l:=[r.v,x.v]) (j:=0) hr rfl hi' false .none .none .none F;obtain ⟨N',f',b1,b2,b3⟩:=GL (e:=T.v) (rr:=.tup [r.v,x.v]) (n:=4094) (l:=[r.v,x.v]) (j:=1) (i:=i+N) (hr2 x rfl) rfl (ey (Nat.add_lt_add_of_le_of_lt hi (aZ a1)) (aw rfl)) true r.ref (.bool r.rd) (.str r.way) f;refine jT ?_;refine ⟨i+N+N',f',_,_,_,a3.trans (b3.trans (mD rfl)),?_⟩;rw [qE,qE,a2,b2];show band (band _ r.g) x.g=band _ (band r.g x.g);cases bo i 0<;>cases r.g<;>rfl
end
noncomputable def QS:V:=.str [111,112]
noncomputable def VK:V:=.str [101,120,112,114]
noncomputable def UA:V:=.str [108,101,97,102]
def op'(o:List Nat):V:=.tup [QS,.str o]
def ex'(v:V):V:=.tup [VK,v]
def UB(v:V):V:=.tup [UA,v]
noncomputable def Tr.code:Tr->List V
 | .leaf v _=>[UB v]
 | .neg a=>a.code++[op' jB]
 | .bin o a b=>a.code++(b.code++[op' o])
noncomputable def Tr.ps:Tr->Nat
 | .leaf _ _=>1
 | .neg a=>1+a.ps+1
 | .bin _ a b=>1+b.ps+a.ps+1
noncomputable def Tr.d2:Tr->Nat
 | .leaf _ _=>0
 | .neg a=>a.d2+1
 | .bin _ a b=>sk (a.d2+2) (b.d2+1)
def Ba(e:V)(F L:List V)(s:Bool)(x y:V):Env:=[.val e,.own (.list F),.own (.list L),sv s x,sv s y,.empty]
section
variable(k:Nat)(H:Hp)(e x y:V)(F L:Nat->V)
theorem GN:bools.map (λs=>(cc 8).map λj=>(cc 9).map λi=>X6 (rn k) (Ba e (bB i F) (bB j L) s x y) H)=bools.map λs=>(cc 8).map λj=>(cc 9).map λi=>.ok (cond (bo j 0) false true) (Ba e (bB i F) (bB j L) s x y) H:=by kernel_rfl
theorem P7(r:List V):heads.map (λh=>bools.map λs=>(cc 7).map λj=>(cc 8).map λi=>br PC (rn k) (Ba e (bB i F) (bB (j+1) (fu L j (ex' (.tup (.str h::r))))) s x y) H)=heads.map λh=>bools.map λs=>(cc 7).map λj=>(cc 8).map λi=>.ok .next (Ba e (bB i F++[UB (.tup (.str h::r))]) (bB j L) true VK (.tup (.str h::r))) H:=by kernel_rfl
theorem UC(o:List Nat):bools.map (λs=>(cc 7).map λj=>(cc 8).map λi=>br PC (rn k) (Ba e (bB i F) (bB (j+1) (fu L j (op' o))) s x y) H)=bools.map λs=>(cc 7).map λj=>(cc 8).map λi=>.ok .next (Ba e (bB i F++[op' o]) (bB j L) true QS (.str o)) H:=by kernel_rfl
theorem UD(a:V):bools.map (λs=>(cc 6).map λj=>(cc 8).map λi=>br PC (rn k) (Ba e (bB i F) (bB (j+1) (fu L j (ex' (.tup [.str jB,a])))) s x y) H)=bools.map λs=>(cc 6).map λj=>(cc 8).map λi=>.ok .next (Ba e (bB i F++[]) (bB (j+2) (fu (fu L j (op' jB)) (j+1) (ex' a))) true VK (.tup [.str jB,a])) H:=by kernel_rfl
theorem UE(a b:V):ops.map (λo=>bools.map λs=>(cc 5).map λj=>(cc 8).map λi=>br PC (rn k) (Ba e (bB i F) (bB (j+1) (fu L j (ex' (.tup [.str o,a,b])))) s x y) H)=ops.map λo=>bools.map λs=>(cc 5).map λj=>(cc 8).map λi=>.ok .next (Ba e (bB i F++[]) (bB (j+3) (fu (fu (fu L j (op' o)) (j+1) (ex' b)) (j+2) (ex' a))) true VK (.tup [.str o,a,b])) H:=by kernel_rfl
end
inductive KS(k:Nat)(H:Hp)(e:V)(o:Out Flow)(n:Nat)(F:List V)(j:Nat)(L:Nat->V):Prop
 |mk {s x y}:whileLoop n X6 (br PC) (rn k) (Ba e F (bB j L) s x y) H=o->KS k H e o n F j L
section
variable{k:Nat}{H:Hp}{e:V}{o:Out Flow}
theorem KS.step(w:KS k H e o (n+1) F (j+1) L)(hj:j<7)(hi:F.length<8)(h: ∀f, ∀s∈bools, ∀x y, ∃u v,br PC (rn k) (Ba e (bB F.length f) (bB (j+1) L) s x y) H=.ok .next (Ba e (bB F.length f++X) (bB j' L') true u v) H):KS k H e o n (F++X) j' L':=by
 refine ae λaA=>?_;induction w with|@mk s x y w=>
 obtain ⟨f,hf⟩:=nk F;obtain ⟨u,v,q⟩:=h f s (jA s) x y;refine aA ?_;have t:=ai (ai (ai (GN k H e x y f L) (jA s)) (rg (Ee hj))) (rg (lj hi));rw [<-hf] at q t;exact .mk (s:=true) (x:=u) (y:=v) ((kZ t q).symm.trans w)
theorem KS.at(w:KS k H e o n F j L)(h:n=m):KS k H e o m F j L:=h▸w
theorem P8(T:Tr):T.All P-> ∀(n j:Nat) (F:List V) (L:Nat->V),j+T.d2<=6->F.length+T.code.length<=8->KS k H e o (n+T.ps) F (j+1) (fu L j (ex' T.v))->KS k H e o n (F++T.code) j L:=by
 induction T with
 |leaf v g=>
  intro ⟨⟨h,hh,r,hv⟩,_⟩ n j F L hj hi w;subst hv;exact w.step (fo hj) hi λf s hs x y=>⟨_,_,ai (ai (ai (ai (P7 k H e x y f L r) hh) hs) (rg (fo hj))) (rg hi)⟩
 |neg a ih=>
  intro h n j F L hj hi w;have hc:F.length+a.code.length<8:=by (rewrite [show (Tr.neg a).code=a.code++[op' jB] from rfl,dk, <-fw] at hi;try with_reducible rfl);exact hi
  have hF:F.length<8:=dA (cw _ _) hc;have hj1:j+1+a.d2<=6:=by (rewrite [hY];try with_reducible rfl);exact hj
  have hj2:j<6:=bt (cw _ _) hj1;have w1:=(w.at (m:=n+1+a.ps+1) (congrArg (λU=>U+1) (fw n 1 a.ps).symm)).step (X:=[]) (lj hj2) hF λf s hs x y=>⟨_,_,ai (ai (ai (UD k H e x y f L a.v) hs) (rg hj2)) (rg hF)⟩
  (rewrite [gn] at w1;try with_reducible rfl)
  have w2:=(ih h (n+1) (j+1) F (fu L j (op' jB)) hj1 (kp hc) w1).step (X:=[op' jB]) (L':=L) (lj hj2) (by (rewrite [dk];try with_reducible rfl);exact hc) λf s hs x y=>⟨_,_,ai (ai (ai (UC k H e x y f L jB) hs) (rg (lj hj2))) (rg (by (rewrite [dk];try with_reducible rfl);exact hc))⟩
  (rewrite [eD] at w2;try with_reducible rfl)
  exact w2
 |bin c a b P6 Uw=>
  intro ⟨ho,ha,hb⟩ n j F L hj hi w;have hc:F.length+a.code.length+b.code.length<8:=by (rewrite [show (Tr.bin c a b).code=a.code++(b.code++[op' c]) from rfl,dk,dk, <-fw, <-fw] at hi;try with_reducible rfl);exact hi
  have Z6:F.length+a.code.length<8:=dA (cw _ _) hc;have hF:F.length<8:=dA (cw _ _) Z6;have d1:j+2+a.d2<=6:=by (rewrite [fw,nr 2];try with_reducible rfl);exact bt (dV (QR (a.d2+2) (b.d2+1)) j) hj
  have d2:j+1+b.d2<=6:=by (rewrite [fw,nr 1];try with_reducible rfl);exact bt (dV (PH (a.d2+2) (b.d2+1)) j) hj
  have hj1:j<5:=ey (km j) (uj (bt (cw _ _) d1));have Yu:j<7:=kS hj1 (aw rfl);have w1:=(w.at (m:=n+1+b.ps+a.ps+1) (congrArg (λU=>U+1) ((fw n (1+b.ps) a.ps).symm.trans (congrArg (λU=>U+a.ps) (fw n 1 b.ps).symm)))).step (X:=[]) Yu hF λf s hs x y=>⟨_,_,ai (ai (ai (ai (UE k H e x y f L a.v b.v) ho) hs) (rg hj1)) (rg hF)⟩
  (rewrite [gn] at w1;try with_reducible rfl)
  have hl:(F++a.code++b.code).length<8:=by (rewrite [dk,dk];try with_reducible rfl);exact hc
  have w3:=(Uw hb (n+1) (j+1) _ (fu L j (op' c)) d2 (by (rewrite [dk];try with_reducible rfl);exact kp hc) (P6 ha (n+1+b.ps) (j+2) F (fu (fu L j (op' c)) (j+1) (ex' b.v)) d1 (kp Z6) w1)).step (X:=[op' c]) (L':=L) Yu hl λf s hs x y=>⟨_,_,ai (ai (ai (UC k H e x y f L c) hs) (rg Yu)) (rg hl)⟩
  (rewrite [eD,eD] at w3;try with_reducible rfl)
  exact w3
end
theorem g61{T:Tr}(k:Nat)(H:Hp)(h:T.All P)(hd:T.d2<=6)(hc:T.code.length<=8)(hs:T.ps<=100):rn (k+1) 61 [T.v] H=.ok (.own (.list T.code)) H:=by
 refine ae λaA=>?_;obtain ⟨n,hf⟩:=uN hs rfl;have w:=P8 (k:=k) (H:=H) (e:=T.v) T h (n+1) 0 [] (λU=>.none) (by rw [fb];exact hd) (by rw [w8,fb];exact hc) (.mk (s:=false) (x:=.none) (y:=.none) rfl);induction w with|@mk s x y w=>
 obtain ⟨f,e⟩:=nk T.code;refine aA ?_;have t:=ai (ai (ai (GN k H T.v x y f (λU=>.none)) (jA s)) (rg (show 0<8 by decide))) (rg (fo hc));rw [<-e] at t;rw [xc,iG t, <-hf] at w;exact congrArg eB ((bQ (show aH cF X7.body 0 (rn k) [.val T.v,.empty,.empty,.empty,.empty,.empty] H=.ok .next [.val T.v,.own (.list []),.empty,.empty,.empty,.empty] H by kernel_rfl)).trans ((bQ (show aH cF X7.body 1 (rn k) _ H=.ok .next (Ba T.v [] (bB 1 (fu (λU=>.none) 0 (ex' T.v))) false .none .none) H by kernel_rfl)).trans ((bQ w.symm).trans rfl)))
noncomputable def ou:V:=.ou 104 [.ref 48]
structure qF(k:Nat)(H:Hp)(v:V)(g:Bool):Prop where
 ok:g=true-> ∃r,rn k 70 [.ref 48,v] H=.ok (.val r) H/\Num 1 r
 bad:g=false->Exc (rn k 70 [.ref 48,v] H) H
theorem UG{S:List Nat}{m:M α}(hm:Nt m)(hy:Hy qs as)(e:xg (m (rs S n) ρ H) as=(qs,.exc i w ρ' H')):m (rn n) ρ H=.exc i w ρ' H':=
 Gx S hm ((uQ hy _ (congrArg (λU=>U.1) e)).trans (by (rewrite [congrArg (λU=>U.2) e];try with_reducible rfl);rfl))
abbrev KU:T:=dX [(aj 3),(aj 4)]
theorem VL(v:V):Nt (dW KU v (br Gl)):=uR (F6 (fU (jy _) (fU (jy _) mw))) (iT ((show (Hu 63 1).m=Gl by kernel_rfl)▸(Hu 63 1).nt))
def sE(e:V)(P:List V)(s b:Bool)(x y z:V):Env:=[.val e,.val ou,.own (.list P),sv s x,sv s y,sv b z,.empty,.empty,.empty]
section
variable(k:Nat)(H:Hp)(e x y z:V)(P:Nat->V)
theorem P9(v r:V):bools.map (λs=>bools.map λb=>(cc 5).map λj=>xg (dW KU (UB v) (br Gl) (rs [104] k) (sE e (bB j P) s b x y z) H) [.ok (.val r) H])=bools.map λs=>bools.map λb=>(cc 5).map λj=>([some (k,104,[.ref 48,v],H)],.ok .next (sE e (bB j P++[r]) true b UA v z) H):=by kernel_rfl
theorem KV(v:V)(i:Nat)(w:V):bools.map (λs=>bools.map λb=>(cc 5).map λj=>xg (dW KU (UB v) (br Gl) (rs [104] k) (sE e (bB j P) s b x y z) H) [.exc i w H])=bools.map λs=>bools.map λb=>(cc 5).map λj=>([some (k,104,[.ref 48,v],H)],.exc i w (sE e (bB j P) true b UA v z) H):=by kernel_rfl
theorem UH(r r':V):bools.map (λs=>bools.map λb=>(cc 5).map λj=>xg (dW KU (op' jB) (br Gl) (rs [43] k) (sE e (bB (j+1) (fu P j r)) s b x y z) H) [.ok (.val r') H])=bools.map λs=>bools.map λb=>(cc 5).map λj=>([some (k,43,[r],H)],.ok .next (sE e (bB j P++[r']) true b QS (.str jB) z) H):=by kernel_rfl
theorem Yv(p r r':V):ops.map (λo=>bools.map λs=>bools.map λb=>(cc 5).map λj=>xg (dW KU (op' o) (br Gl) (rs [62] k) (sE e (bB (j+2) (fu (fu P j p) (j+1) r)) s b x y z) H) [.ok (.val r') H])=ops.map λo=>bools.map λs=>bools.map λb=>(cc 5).map λj=>([some (k,62,[.str o,p,r],H)],.ok .next (sE e (bB j P++[r']) true true QS (.str o) r) H):=by kernel_rfl
end
theorem g62(ho:o∈ops)(hv:Num a v)(hw:Num b w)(ha:1<=a)(hb:1<=b)(hab:a+b<=12): ∃r,rn (k+4) 62 [.str o,v,w] H=.ok (.val r) H/\Num (a+b) r:=by
 have UI:=bt hab (show 12<=20 by decide);simp only [ops,de,eP,or_false] at ho;rcases ho with rfl|rfl|rfl
 ·obtain ⟨r,q,N⟩:=ZT (k+1) H hv hw ha hb UI;exact ⟨r,go [40] (st q ok),N⟩
 ·obtain ⟨r,q,N⟩:=ZU (k+1) H hv hw ha hb UI;exact ⟨r,go [41] (st q ok),N⟩
 ·obtain ⟨r,q,N⟩:=ZW k H hv hw hab;exact ⟨r,go [42] (st q ok),N⟩
theorem GO:aU (p++x::q) p.length=some x:=by rw [cL,List.getElem?_append_right (eb _),Nat.sub_self];rfl
theorem Bb(h:l=p++(q++x::r)):aU l (p.length+q.length)=some x:=by rw [h, <-dk, <-eD];exact GO
inductive GP(k:Nat)(H:Hp)(e:V)(l:List V)(o:Out Flow)(n p:Nat)(P:List V):Prop
 |mk {s b x y z}:forLoop n p KU (.vals l) (br Gl) (rn k) (sE e P s b x y z) H=o->GP k H e l o n p P
section
variable{k:Nat}{H:Hp}{e:V}{l:List V}{o:Out Flow}
theorem GP.step(w:GP k H e l o (n+1) p P)(hv:aU l p=some v)(h: ∀s∈bools, ∀b∈bools, ∀x y z, ∃s' b' x' y' z',dW KU v (br Gl) (rn k) (sE e P s b x y z) H=.ok .next (sE e P' s' b' x' y' z') H):GP k H e l o n (p+1) P':=by
 refine ae λaA=>?_;cases w with|@mk s b x y z w=>
 obtain ⟨s',b',x',y',z',q⟩:=h s (jA s) b (jA b) x y z;refine aA ?_;exact .mk (s:=s') (b:=b') (x:=x') (y:=y') (z:=z') ((oV hv q rfl).symm.trans w)
def Z7(H:Hp)(o:Out Flow):Prop:= ∃i w ρ,aT i 2=true/\o=.exc i w ρ H
theorem GP.at(w:GP k H e l o n p P)(h:n=m)(h':p=q):GP k H e l o m q P:=h▸h'▸w
theorem GP.bad(w:GP k H e l o (n+1) p P)(hv:aU l p=some v)(h: ∀s∈bools, ∀b∈bools, ∀x y z, ∃i w ρ,aT i 2=true/\dW KU v (br Gl) (rn k) (sE e P s b x y z) H=.exc i w ρ H):Z7 H o:=by
 cases w with|@mk s b x y z w=>
 obtain ⟨i,v,ρ,hi,q⟩:=h s (jA s) b (jA b) x y z;exact ⟨i,v,ρ,hi,w.symm.trans (KP hv q)⟩
theorem snoc(f:Nat->V)(j:Nat)(r:V):bB j f++[r]=bB (j+1) (fu f j r):=by
 induction j generalizing f with
 |zero=>rfl
 |succ j ih=>exact congrArg (λU=>f 0::U) (ih λi=>f (i+1))
theorem qG(T:Tr):1<=T.nl:=by
 induction T with
 |leaf=>exact eb 1
 |neg a ih=>exact ih
 |bin _ a b P6=>exact bt P6 (cw _ _)
def Got(k:Nat)(H:Hp)(e:V)(l:List V)(o:Out Flow)(n p:Nat)(P:List V)(T:Tr):Prop:=(T.good=true/\ ∃r,Num T.nl r/\GP k H e l o n p (P++[r]))\/(T.good=false/\Z7 H o)
theorem Qa(T:Tr):T.All (qF (k+4) H)->T.nl<=6-> ∀(n:Nat) (pre post P:List V),l=pre++(T.code++post)->P.length+T.nl<=5->GP (k+5) H e l o (n+T.code.length) pre.length P->Got (k+5) H e l o n (pre.length+T.code.length) P T:=by
 induction T with
 |leaf v g=>
  intro ⟨_,h⟩ _ n pre post P hl hP w;have hv:aU l pre.length=some (UB v):=hl▸GO;have hj:P.length<5:=hP;obtain ⟨f,hf⟩:=nk P;cases g with
  |true=>
   obtain ⟨r,h1,N⟩:=h.ok rfl;refine .inl ⟨rfl,r,N,w.step hv λs hs b hb x y z=>⟨true,b,UA,v,z,?_⟩⟩;have q:=ai (ai (ai (P9 (k+5) H e x y z f v r) hs) hb) (rg hj);rw [<-hf] at q;exact kB (VL _) (.cons (go [70] (st h1 ok)) .nil) q
  |false=>
   obtain ⟨i,u,h1,hi⟩:=h.bad rfl;refine .inr ⟨rfl,w.bad hv λs hs b hb x y z=>⟨i,u,sE e P true b UA v z,hi,?_⟩⟩;have q:=ai (ai (ai (KV (k+5) H e x y z f v i u) hs) hb) (rg hj);rw [<-hf] at q;exact UG (VL _) (.cons (go [70] (stx h1 ex)) .nil) q
 |neg a ih=>
  intro h hn n pre post P hl hP w;have hc:(Tr.neg a).code.length=a.code.length+1:=dk;rw [hc] at w ⊢;rcases ih h hn (n+1) pre (op' jB::post) P (by rw [hl];show _++((_++_)++_)=_;rw [eD];rfl) hP (w.at (hY n a.code.length 1) rfl) with ⟨hg,r,N,w⟩|hb
  ·obtain ⟨r',h1,N'⟩:=g43 (k+4) H N;refine .inl ⟨hg,r',N',w.step (v:=op' jB) ?_ λs hs b hb x y z=>⟨true,b,QS,.str jB,z,?_⟩⟩
   ·exact Bb (r:=post) (by rw [hl,show (Tr.neg a).code=a.code++[op' jB] from rfl,eD];rfl)
   ·obtain ⟨f,hf⟩:=nk P;have q:=ai (ai (ai (UH (k+5) H e x y z f r r') hs) hb) (rg (ey (kl (qG a)) hP));rw [<-snoc, <-hf] at q;exact kB (VL _) (.cons h1 .nil) q
  ·exact .inr hb
 |bin c a b P6 Uw=>
  intro ⟨ho,ha,hb⟩ hn n pre post P hl hP w;have hc:(Tr.bin c a b).code.length=a.code.length+b.code.length+1:=by rw [show (Tr.bin c a b).code=a.code++(b.code++[op' c]) from rfl,dk,dk];rfl
  have hl':l=pre++(a.code++(b.code++(op' c::post))):=by rw [hl,show (Tr.bin c a b).code=a.code++(b.code++[op' c]) from rfl,eD,eD];rfl
  have Yw:P.length+a.nl+b.nl<=5:=by rw [fw];exact hP
  rw [hc] at w ⊢;rcases P6 ha (bt (cw _ _) hn) (n+1+b.code.length) pre _ P hl' (bt (cw _ _) Yw) (w.at (by lia) rfl) with ⟨hg,r,N,w⟩|⟨hg,hb⟩
  ·rcases Uw hb (bt (ky _ _) hn) (n+1) (pre++a.code) _ (P++[r]) (by rw [hl',eD]) (by rw [dk];exact bt (eM (dV (qG a) _) _) Yw) (w.at rfl dk.symm) with ⟨hg',r2,N2,w⟩|⟨hg',hb⟩
   ·obtain ⟨r',h1,N'⟩:=g62 (k:=k+1) (H:=H) ho N N2 (qG a) (qG b) (bt hn (aw rfl));refine .inl ⟨by show band _ _=_;rw [hg,hg'];rfl,r',N',(w.step (v:=op' c) (P':=P++[r']) ?_ λs hs b hb x y z=>⟨true,true,QS,.str c,r2,?_⟩).at rfl (by rw [dk];lia)⟩
    ·exact Bb (r:=post) (by rw [hl',eD])
    ·obtain ⟨f,hf⟩:=nk P;have q:=ai (ai (ai (ai (Yv (k+5) H e x y z f r r2 r') ho) hs) hb) (rg (ey (kl (qG a)) (bt (cw _ _) Yw)));rw [<-snoc, <-snoc, <-hf] at q;exact kB (VL _) (.cons h1 .nil) q
   ·exact .inr ⟨by show band _ _=_;rw [hg,hg'];rfl,hb⟩
  ·exact .inr ⟨by show band _ _=_;rw [hg];rfl,hb⟩
end
theorem KW(h:s cf ρ H=.exc i w ρ' H'):br (s::r) cf ρ H=.exc i w ρ' H':=by
 show (s cf ρ H).bind _=_;rw [h];rfl
theorem g63{T:Tr}(h:T.All (qF (k+4) H))(hn:T.nl<=5)(hd:T.d2<=6)(hc:T.code.length<=8)(hs:T.ps<=100):(T.good=true-> ∃r,rn (k+6) 63 [T.v,ou] H=.ok (.val r) H/\Num 5 r)/\(T.good=false->Exc (rn (k+6) 63 [T.v,ou] H) H):=by
 have e0:aH cF VI.body 0 (rn (k+5)) [.val T.v,.val ou,.empty,.empty,.empty,.empty,.empty,.empty,.empty] H=.ok .next (sE T.v [] false false .none .none .none) H:=by kernel_rfl
 have es:srcOf (ao 61 [(aa 0)]) (rn (k+5)) (sE T.v [] false false .none .none .none) H=.ok (.vals T.code) (sE T.v [] false false .none .none .none) H:=kB (S:=[61]) (as:=[.ok (.own (.list T.code)) H]) (S6 (LR (fB (zk _) iF))) (.cons (g61 (k+4) H h hd hc hs) .nil) (by kernel_rfl);have e1:aH cF VI.body 1 (rn (k+5)) (sE T.v [] false false .none .none .none) H=forLoop cJ 0 KU (.vals T.code) (br Gl) (rn (k+5)) (sE T.v [] false false .none .none .none) H:=by
  show (srcOf (ao 61 [(aa 0)]) _ _ _).bind _=_;rw [es];rfl
 obtain ⟨n,hf⟩:=uN hc rfl;have G:=Qa T h (bt hn (aw rfl)) (n+1) [] [] [] (l:=T.code) (by (rewrite [gn];try with_reducible rfl);rfl) (by (rewrite [w8,fb];try with_reducible rfl);exact hn) (.mk (e:=T.v) (s:=false) (b:=false) (x:=.none) (y:=.none) (z:=.none) rfl);rw [w8, <-hf,fb] at G;rcases G with ⟨hg,r,N,w⟩|⟨hg,i,v,ρ,hi,hb⟩
 ·refine ⟨λU=>⟨r,?_,N.mono hn⟩,λh=>nomatch hg.symm.trans h⟩;cases w with|@mk s b x y z w=>
  rw [mD (jk (eb _))] at w;exact congrArg eB ((bQ e0).trans ((bQ (e1.trans w.symm)).trans (show br (drop' 2 VI.body) (rn (k+5)) (sE T.v [r] s b x y z) H=.ok (.ret (.val r)) (sE T.v [] s b x y z) H by kernel_rfl)))
 ·exact ⟨λh=>(nomatch hg.symm.trans h),λU=>⟨i,v,congrArg eB ((bQ e0).trans (KW (e1.trans hb))),hi⟩⟩
noncomputable def Z8(cat:List Nat)(sz:Nat):V:=.inst 0 [(12,.str cat),(10,.int sz),(30,.none),(20,.str [100,105,115,112,108,97,121]),(19,.str [116,114,97,105,108,105,110,103]),(18,.bool false),(33,.bool false),(31,.bool false),(13,.int 0),(14,.int 0),(15,.bool false)]
noncomputable def Yx:List Nat:=[103,114,111,117,112]
noncomputable def Qc:List Nat:=[97,108,112,104,97,110,117,109,101,114,105,99]
def aW(H:Hp)(e:Nat)(w:V)(l_:List Nat):List mO:=l_.rec [] λc U ih=>cond (bo c 0) [.exc e w H] (.ok (.val (.int c)) H::ih)
def qW(k:Nat)(H:Hp)(l_:List Nat):(Nat->V)->List Qn:=l_.rec (λU=>[]) λc U ih a=>some (k,72,[.ref 48,a 0],H)::cond (bo c 0) [] (ih λi=>a (i+1))
def pR(pt:V):List (V×Nat):=rev (pE pt) []
def aR(H:Hp)(e:Nat)(w:V)(l_:List (V×Nat)):List mO:=l_.rec [] λp U ih=>cond (bo p.2 0) (.ok (.val (.int 1)) H) (.exc e w H)::ih
noncomputable def qR'(k:Nat)(H:Hp)(l:List (V×Nat)):List Qn:=l.map λp=>some (k,72,[.ref 48,p.1],H)
def VM(pt:V):Bool:=bo (pF pt) 0
def aX(H:Hp)(e:Nat)(w:V)(pt:V)(ws:List Nat):List mO:=aR H e w (pR pt)++cond (VM pt) (aW H e w ws) []
def qX(k:Nat)(H:Hp)(pt:V)(ws:List Nat)(a:Nat->V):List Qn:=qR' k H (pR pt)++cond (VM pt) (qW (k+1) H ws a) []
noncomputable def items:List Nat:=[13,16,7,22,26,29,42,36]
def off(i:Nat)(ws:List Nat):Nat:=
 cond (bo i 13) 3<|cond (bo i 16) 7<|cond (bo i 7) 0<|cond (bo i 42) 28<|cond (bo i 36) 27<|cond (bo i 29) (17+4*(aH 1 ws 0-1)+(aH 1 ws 1-1)) (15+4*(aH 1 ws 0-1))
noncomputable def jY(i:Nat):Nat:=cond (bo i 7) 27<|cond (bo i 26) 2<|cond (bo i 29) 1<|cond (bo i 42) 1<|cond (bo i 36) 1 4
def Yy(i:Nat)(pt:V):Nat:=match pt with| .tup [_,.tup _]=>1|_=>jY i
def shape(i:Nat)(pt:V):V:=cond (Un pt) (cond (isNum i) (Sn (jY i)) (Z8 (cond (bo i 13) Qc (cond (bo i 29) Qc Yx)) (jY i))) (Z8 Qc (Yy i pt))
def Me(H:Hp)(i:Nat)(ws:List Nat)(pt:V):Res:=.ok (.val (.tup [.ref 52,.int (off i ws),shape i pt])) H
def Qd(g:Bool)(x:Res):Res×Option (Bool×Hp):=cond g (x,none) (.bad,zB x)
def g8(i:Nat)(ws:List Nat)(pt:V):Bool:=bo (many (some (deep i)) ws pt) 0
def own(ws:List Nat)(pt:V)(e:Nat):Bool:=cond (band (VM pt) (bo (zs ws) 0)) true (aT e 2)
theorem f68(k:Nat)(n c:Int)(f:Nat->Nat)(t e:Nat)(w:V)(nm:List Nat)(q:List V)(a:Nat->V):
  items.map (λi=>parts.map λpt=>vec.map λws=>let T:=nq (oU [1,72] (k+22) 68 [.ref 48,rf nm q (bB ws.length a) pt] (HW n c f t)) (.ok (.val (.ref i)) (HW n c f t)::aX (HW n c f t) e w pt ws);(T.1,Qd (g8 i ws pt) T.2))=
  items.map λi=>parts.map λpt=>vec.map λws=>(some (k+21,1,[.ref 1,.str nm,.tup q],HW n c f t)::qX (k+20) (HW n c f t) pt ws a,cond (g8 i ws pt) (Me (HW n c f t) i ws pt,none) (.bad,some (own ws pt e,HW n c f t))):=by kernel_rfl
noncomputable abbrev T2(t:Bool):Nat:=cond t 50 49
section
variable{k:Nat}{n c:Int}{f:Nat->Nat}{t:Bool}{ss:List (V×Nat)}{pt:V}
theorem Qe(k:Nat)(n c:Int)(f:Nat->Nat)(h: ∀p∈ss,Sub p.1 p.2 (T2 t)): ∃a e w,ss.map (λU=>U.1)=bB (ss.map (λU=>U.2)).length a/\aT e 2=true/\Hy (qW (k+20) (HW n c f (T2 t)) (ss.map (λU=>U.2)) a) (aW (HW n c f (T2 t)) e w (ss.map (λU=>U.2))):=by
 induction ss with
 |nil=>exact ⟨λU=>.none,0,.none,rfl,rfl,.nil⟩
 |cons p ss ih=>
  obtain ⟨a,e,w,h1,h2,h3⟩:=ih λp hp=>h p (cb _ hp);have S:=h p bj;obtain ⟨v,c'⟩:=p;cases c' with
  |zero=>
   obtain ⟨e,w,q,hi⟩:=S.bad rfl k n c f;exact ⟨AX v a,e,w,congrArg (λU=>v::U) h1,hi,.cons q .nil⟩
  |succ c'=>exact ⟨AX v a,e,w,congrArg (λU=>v::U) h1,h2,.cons (S.ok (DD _) k n c f) h3⟩
theorem Yz(h: ∀p∈ss,Sub p.1 p.2 (T2 t))(hp:pt∈parts): ∃a e w,ss.map (λU=>U.1)=bB (ss.map (λU=>U.2)).length a/\aT e 2=true/\Hy (qX (k+20) (HW n c f (T2 t)) pt (ss.map (λU=>U.2)) a) (aX (HW n c f (T2 t)) e w pt (ss.map (λU=>U.2))):=by
 obtain ⟨a,e,w,h1,h2,h3⟩:=Qe (k+1) n c f h;have o: ∀{p:V×Nat},p∈subs (T2 t)->Sub p.1 p.2 (T2 t):=qD t;have h4:=(o (p:=(nb 1,1)) bj).ok (by decide) k n c f;simp only [parts,de,eP,or_false] at hp;rcases hp with rfl|rfl|rfl|rfl
 ·exact ⟨a,e,w,h1,h2,h3⟩
 ·exact ⟨a,e,w,h1,h2,.cons h4 h3⟩
 ·exact ⟨a,e,w,h1,h2,.cons h4 (.cons h4 h3)⟩
 ·obtain ⟨e,w,q,hi⟩:=(o (p:=(rf uV [] [] .none,0)) (by unfold subs;simp)).bad rfl k n c f;exact ⟨a,e,w,h1,hi,.cons h4 (.cons q .nil)⟩
theorem mE(hx:x∈bM):x.2.2∈items:=by
 have h:bM.map (λx=>items.any λi=>bo x.2.2 i)=bM.map λU=>true:=by kernel_rfl
 obtain ⟨i,hi,e⟩:=ph.mp (ai h hx);rw [cq e];exact hi
def Spot(k:Nat)(H:Hp)(v:V)(i:Nat)(ws:List Nat)(pt:V):Prop:=cond (g8 i ws pt) (rn (k+22) 68 [.ref 48,v] H=Me H i ws pt) (Exc (rn (k+22) 68 [.ref 48,v] H) H)
theorem qH(h:Rows (T2 t) ss)(hp:pt∈parts)(hx:x∈bM):Spot k (HW n c f (T2 t)) (rf x.1 x.2.1 (ss.map (λU=>U.1)) pt) x.2.2 (ss.map (λU=>U.2)) pt:=by
 refine ae λaA=>?_;obtain ⟨a,e,w,h1,h2,h3⟩:=Yz (k:=k) (n:=n) (c:=c) (f:=f) h.s hp;refine aA ?_;have hy:Hy _ (.ok (.val (.ref x.2.2)) (HW n c f (T2 t))::_):=.cons (ai (f1 (k+9) n c (mem f (T2 t))) hx) h3;rw [h1];unfold Spot;obtain ⟨q1,q2⟩:=kj (ai (ai (ai (f68 k n c f (T2 t) e w x.1 x.2.1 a) (mE hx)) hp) h.vec);revert q2;cases g8 x.2.2 (ss.map (λU=>U.2)) pt with
 |true=>exact λq2=>go [1,72] ((bL hy _ q1).trans (ok (congrArg (λU=>U.1) q2)))
 |false=>
  intro q2;refine qB (seen (b:=(true,HW n c f (T2 t))) (λU=>gX) hy (Prod.ext q1 ((congrArg (λU=>U.2) q2).trans ?_)));show some (cond _ true (aT e 2),_)=_;rw [h2];cases band (VM pt) (bo (zs (ss.map (λU=>U.2))) 0)<;>rfl
theorem sF(hx:x∈fQ)(l:List V):Exc (rn (k+22) 68 [.ref 48,rf x.1 x.2 l pt] (HW n c f (T2 t))) (HW n c f (T2 t)):=by
 obtain ⟨w,h⟩:=GF (k+9) n c (mem f (T2 t)) x hx;exact ⟨0,w,go [1] (stx h ex),rfl⟩
end
def iV(f:Nat->Nat):Prop:= ∀i,48<=f i/\f i<=57
theorem GQ: ∀{n:Nat} {l:List α},x∈take' n l->x∈l
 |0,_,h=>(eP h).elim
 |_+1,[],h=>h
 |_+1,_::_,h=>(de.mp h).elim (λe=>de.mpr (.inl e)) λh=>cb _ (GQ h)
theorem GR: ∀{n:Nat} {l:List α},x∈drop' n l->x∈l
 |0,_,h=>h
 |_+1,[],h=>h
 |_+1,_::_,h=>cb _ (GR h)
theorem GS(hf:iV f)(t:Bool):xd (mem f (T2 t)):=by
 have e:mem f (T2 t)=(cc 29).map λi=>cond (bo i 27) (T2 t) (f i):=by kernel_rfl
 intro x hx;rw [e] at hx;obtain ⟨i,_,rfl⟩:=dy.mp hx;cases bo i 27
 ·exact hf i
 ·show 48<=T2 t/\T2 t<=57;cases t<;>decide
def cut(i:Nat)(ws:List Nat)(m:List Nat):List Nat:=take' (jY i) (drop' (off i ws) m)
theorem KX(f:Nat->Nat)(t:Nat):items.map (λi=>vec.map λws=>cond (band (g8 i ws .none) (isNum i)) (bo (cut i ws (mem f t)).length (jY i)) true)=items.map λU=>vec.map λU=>true:=by kernel_rfl
theorem UJ:items.map (λi=>cond (isNum i) (band (aT 0 (jY i)) (band (aT (jY i) 5) (cond (bo (jY i) 3) false true))) true)=items.map λU=>true:=by kernel_rfl
def Qf(g:Bool)(x:Res)(r:V)(H:Hp):Qn×Option Res×Option (Bool×Hp):=cond g (x.q,some (x.to (.ok (.val r) H)),none) (none,none,zB x)
theorem f70(k:Nat)(n c:Int)(f:Nat->Nat)(t:Nat)(nm:List Nat)(q l:List V)(r:V):
  items.map (λi=>parts.map λpt=>vec.map λws=>cond (g8 i ws pt) (let T:=nq (oU [57,64,68] (k+24) 70 [.ref 48,rf nm q l pt] (HW n c f t)) [.ok (.val (.bool false)) (HW n c f t),.ok (.val (.tup [.ref 52,.int (off i ws),shape i pt])) (HW n c f t)];some (T.1,Qf (gP i pt) T.2 r (HW n c f t))) none)=
  items.map λi=>parts.map λpt=>vec.map λws=>cond (g8 i ws pt) (some ([some (k+23,64,[.ref 48,rf nm q l pt],HW n c f t),some (k+22,68,[.ref 48,rf nm q l pt],HW n c f t)],cond (gP i pt) (some (k+23,57,[Sn (jY i),.bytes (cut i ws (mem f t))],HW n c f t),some (.ok (.val r) (HW n c f t)),none) (none,none,some (true,HW n c f t)))) none:=by kernel_rfl
theorem YA(h:band (aT 0 d) (band (aT d 5) (cond (bo d 3) false true))=true):qz d:=by
 have e: ∀d∈cc 5,band (aT 0 d) (band (aT d 5) (cond (bo d 3) false true))=true->qz d:=by unfold qz;decide
 obtain ⟨h1,h2⟩:=n9 h;exact e d (rg (aZ (n9 h2).1)) h
section
variable{k:Nat}{n c:Int}{f:Nat->Nat}{t:Bool}{ss:List (V×Nat)}{pt:V}
theorem f64(hx:x∈bM)(l:List V)(pt:V):rn (k+23) 64 [.ref 48,rf x.1 x.2.1 l pt] (W n c m)=.ok (.val (.bool false)) (W n c m):=congrArg (λU=>U.2) (ai (Z1 (k+22) n c m l pt) hx)
theorem UK(hx:x∈fQ)(l:List V)(pt:V):rn (k+23) 64 [.ref 48,rf x.1 x.2 l pt] (W n c m)=.ok (.val (.bool false)) (W n c m):=congrArg (λU=>U.2) (ai (Ul (k+22) n c m l pt) hx)
theorem Mf(h:gP i pt=true):isNum i=true/\pt=.none:=by
 obtain ⟨h1,h2⟩:=n9 h;exact ⟨h1,by cases pt<;>first|rfl|exact bI h2⟩
theorem Mg:gB i ws pt=cond (g8 i ws pt) (gP i pt) false:=rfl
theorem uD(hf:iV f)(hi:i∈items)(hw:ws∈vec)(hg:g8 i ws .none=true)(hn:isNum i=true):qz (jY i)/\(cut i ws (mem f (T2 t))).length=jY i/\xd (cut i ws (mem f (T2 t))):=by
 have h1:=ai UJ hi;have h2:=ai (ai (KX f (T2 t)) hi) hw;rw [hn] at h1;rw [hg,hn] at h2;exact ⟨YA h1,cq h2,λx hx=>GS hf t x (GR (GQ hx))⟩
theorem gA(hf:iV f)(h:Rows (T2 t) ss)(hp:pt∈parts)(hx:x∈bM):qF (k+24) (HW n c f (T2 t)) (rf x.1 x.2.1 (ss.map (λU=>U.1)) pt) (gB x.2.2 (ss.map (λU=>U.2)) pt):=by
 have h64:=f64 (k:=k) (n:=n) (c:=c) (m:=mem f (T2 t)) hx (ss.map (λU=>U.1)) pt;have uS:=qH (k:=k) (n:=n) (c:=c) (f:=f) h hp hx;unfold Spot at uS;rw [Mg];cases hg:g8 x.2.2 (ss.map (λU=>U.2)) pt with
 |false=>
  rw [hg] at uS;obtain ⟨e,w,uS,he⟩:=uS;exact ⟨λh=>(nomatch h),λU=>⟨e,w,go [64,68] (st h64 (stx uS ex)),he⟩⟩
 |true=>
  rw [hg] at uS;have q:=λr=>ai (ai (ai (f70 k n c f (T2 t) x.1 x.2.1 (ss.map (λU=>U.1)) r) (mE hx)) hp) h.vec;dsimp only at q;rw [hg] at q;have hy:Hy _ [.ok (.val (.bool false)) (HW n c f (T2 t)),.ok (.val (.tup [.ref 52,.int (off x.2.2 (ss.map (λU=>U.2))),shape x.2.2 pt])) (HW n c f (T2 t))]:=.cons h64 (.cons uS .nil);have q:=λr=>kj (ag (q r));refine ⟨λ(h1:gP x.2.2 pt=true)=>?_,λ(h1:gP x.2.2 pt=false)=>?_⟩
  ·obtain ⟨hn,e⟩:=Mf h1;subst e;have iS:=uD (t:=t) hf (mE hx) h.vec hg hn;have d1:=iS.1;have d2:=iS.2.1;have d3:=iS.2.2;obtain ⟨r,h57,N⟩:=g57 (k+18) (HW n c f (T2 t)) d1 d2 d3;obtain ⟨q1,q2⟩:=q r;rw [h1] at q2;obtain ⟨q3,q4⟩:=kj q2;exact ⟨r,go [57,64,68] ((bL hy _ q1).trans (uM (a:=.ok (.val r) _) q3 h57 (ok (ag (kj q4).1)))),N⟩
  ·obtain ⟨q1,q2⟩:=q .none;rw [h1] at q2;exact qB (seen (S:=[57,64,68]) (λU=>gX) hy (Prod.ext q1 (congrArg (λU=>U.2.2) q2)))
theorem qI(hx:x∈fQ)(l:List V):qF (k+24) (HW n c f (T2 t)) (rf x.1 x.2 l pt) false:=by
 refine ae λaA=>?_;obtain ⟨e,w,uS,he⟩:=sF (k:=k) (n:=n) (c:=c) (f:=f) (t:=t) (pt:=pt) hx l;refine aA ?_;exact ⟨λh=>(nomatch h),λU=>⟨e,w,go [64,68] (st (UK (k:=k) (n:=n) (c:=c) (m:=mem f (T2 t)) hx l pt) (stx uS ex)),he⟩⟩
end
noncomputable def GU(u:Int)(s:Nat):V:=.tup [.str [110,117,109,98,101,114],.tup [.int u,.int s]]
noncomputable def GW:V:=.tup [.str [102,105,103,117,114,101],.str [90,69,82,79]]
noncomputable def UL:V:=.tup [.str [116,101,120,116],.bytes [49]]
def others:List (V×Bool):=[(GW,true),(.tup [.str [102,105,103,117,114,101],.str [72,73,71,72]],false),(.tup [.str [116,101,120,116],.bytes [49,50]],false),(.tup [.str [97,108,108],.bytes [55]],false),(UL,false),(TI,true),(GU 25 1,true)]++
 (cc 90).flatMap λd=>(cc 3).map λs=>(GU (10*(d:Nat)-399) s,true)
def Z9:V->Bool| .tup (.str h::_)=>heads.any (bP h)|_=>false
theorem Mh(h:Z9 v=true):LH v:=by
 cases v with
 |tup l=>cases l with
  |nil=>exact bI h
  |cons a l=>cases a with
   |str s=>
    obtain ⟨x,hx,e⟩:=ph.mp h;exact ⟨x,hx,l,by rw [dP e]⟩
   |_=>exact bI h
 |_=>exact bI h
def Mi(x:Res):Option (Bool×Hp):=match x with| .ok (.val (.tup [.int u,.int (.ofNat s)])) H=>some (band (gp u.natAbs (10^10)) (eh s 2),H)|_=>none
theorem Qg(h:Mi x=some (true,H)): ∃r,x=.ok (.val r) H/\Num 1 r:=by
 cases x with
 |ok r H'=>cases r with
  |val v=>cases v with
   |tup l=>cases l with
    |nil=>exact bw h
    |cons a l=>cases a with
     |int u=>cases l with
      |nil=>exact bw h
      |cons b l=>cases b with
       |int s=>cases s with
        |ofNat s=>cases l with
         |nil=>
          obtain ⟨h1,e⟩:=kj (ag h);obtain ⟨h2,h3⟩:=n9 h1;exact ⟨_,congrArg (Res.ok _) e,_,_,rfl,g0.mp h2,aw h3⟩
         |cons _ _=>exact bw h
        |negSucc _=>exact bw h
       |_=>exact bw h
     |_=>exact bw h
   |_=>exact bw h
  |_=>exact bw h
 |_=>exact bw h
noncomputable def Mj(x:Res):Option Hp:=match x with| .ok (.val _) H=>some H|_=>none
theorem Qh(h:Mj x=some H): ∃r,x=.ok (.val r) H:=by
 cases x with
 |ok r H'=>cases r with
  |val v=>exact ⟨v,congrArg (Res.ok _) (ag h)⟩
  |_=>exact bw h
 |_=>exact bw h
section
variable(k:Nat)(n c:Int)(m:List Nat)
theorem o1:others.map (λp=>(Z9 p.1,uP (rn (k+24) 28 [.ref 1,p.1] (W n c m)),rn (k+24) 31 [.ref 1,p.1] (W n c m),Mj (rn (k+24) 33 [p.1] (W n c m))))=others.map λp=>(true,some (0,W n c m),.ok (.val (.bool p.2)) (W n c m),some (W n c m)):=by kernel_rfl
theorem o2:others.map (λp=>cond p.2 (Mi (rn (k+24) 70 [.ref 48,p.1] (W n c m))) (zB (rn (k+24) 70 [.ref 48,p.1] (W n c m))))=others.map λU=>some (true,W n c m):=by kernel_rfl
variable{k n c m}
theorem k8(hp:p∈others):LH p.1/\xe (k+24) (W n c m) p.1 p.2/\qF (k+24) (W n c m) p.1 p.2:=by
 have h:=ai (o1 k n c m) hp;have h2:=ai (o2 k n c m) hp;refine ⟨Mh (congrArg (λU=>U.1) h),⟨⟨0,k7 (congrArg (λU=>U.2.1) h),rfl,λh=>(h rfl).elim,λU=>congrArg (λU=>U.2.2.1) h⟩,Qh (congrArg (λU=>U.2.2.2) h)⟩,λq=>?_,λq=>?_⟩
 ·rw [q] at h2;exact Qg h2
 ·rw [q] at h2;exact qB h2
theorem Qi(hd:d<90)(hs:s<3):(GU (10*(d:Nat)-399) s,true)∈others:=mI _ (ka.mpr ⟨d,rg hd,dy.mpr ⟨s,rg hs,rfl⟩⟩)
end
def ins(i:Nat)(ws:List Nat)(j:Nat):Bool:=band (eh (off i ws) j) (gp j (off i ws+jY i))
def Qj(i:Nat)(ws:List Nat)(w f:Nat->Nat)(j:Nat):Nat:=cond (ins i ws j) (w (j-off i ws)) (f j)
noncomputable def Qk(i:Nat)(w:Nat->Nat)(t:Nat):Nat:=cond (bo i 36) (w 0) t
theorem f74(k:Nat)(n c:Int)(f:Nat->Nat)(t:Nat)(r v:V)(b:Bool)(z:Int)(w:Nat->Nat):
  items.map (λi=>parts.map λpt=>vec.map λws=>cond (g8 i ws pt) (let T:=λas=>nq (oU [45,48,64,68,73] (k+24) 74 [.ref 48,r,v,.bool b] (HW n c f t)) (.ok (.val (.bool false)) (HW n c f t):: .ok (.val (.tup [.ref 52,.int (off i ws),shape i pt])) (HW n c f t)::as);
   some (cond (gP i pt) (some (T [.ok (.val (.int z)) (HW n c f t),.ok (.val (.bool false)) (HW n c f t)],T [.ok (.val (.int z)) (HW n c f t),.ok (.val (.bool true)) (HW n c f t),.ok (.val (.bytes (bB (jY i) w))) (HW n c f t)]),none) (none,some ((T []).1,zB (T []).2)))) none)=
  items.map λi=>parts.map λpt=>vec.map λws=>cond (g8 i ws pt) (let q:=some (k+23,64,[.ref 48,r],HW n c f t);let q2:=some (k+23,68,[.ref 48,r],HW n c f t);let q3:=some (k+23,45,[v,.int 0,.bool b],HW n c f t);let q4:=some (k+23,48,[.int z,.int (jY i)],HW n c f t);
   some (cond (gP i pt) (some (([q,q2,q3,q4],.ok (.val (.bool true)) (HW n c f t)),([q,q2,q3,q4,some (k+23,73,[Sn (jY i),.int z],HW n c f t)],.ok (.val (.bool false)) (HW n c (Qj i ws w f) (Qk i w t)))),none) (none,some ([q,q2],some (true,HW n c f t))))) none:=by kernel_rfl
structure Kept(i:Nat)(ws:List Nat)(f:Nat->Nat)(t:Nat)(f':Nat->Nat)(t':Nat):Prop where
 d:iV f'
 s: ∀j,ins i ws j=false->f' j=f j
 t:i≠36->t'=t
 td:48<=t'/\t'<=57
def GX(k:Nat)(n c:Int)(f:Nat->Nat)(t:Nat)(r v:V)(b:Bool)(i:Nat)(ws:List Nat):Prop:= ∃b' f' t',rn (k+24) 74 [.ref 48,r,v,.bool b] (HW n c f t)=.ok (.val (.bool b')) (HW n c f' t')/\Kept i ws f t f' t'
theorem KY(h:xd l):iV (at' 48 l):=λi=>by
 unfold at';cases q:aU l i with
 |none=>decide
 |some x=>exact h x (dQ q)
theorem YB(t:Bool):48<=T2 t/\T2 t<=57:=by cases t<;>decide
section
variable{k:Nat}{n c:Int}{f:Nat->Nat}{t:Bool}{ss:List (V×Nat)}{pt v:V}{b:Bool}
theorem nQ(hf:iV f)(h:Rows (T2 t) ss)(hp:pt∈parts)(hx:x∈bM)(hv:Num 15 v):
  cond (gB x.2.2 (ss.map (λU=>U.2)) pt) (GX k n c f (T2 t) (rf x.1 x.2.1 (ss.map (λU=>U.1)) pt) v b x.2.2 (ss.map (λU=>U.2))) (Exc (rn (k+24) 74 [.ref 48,rf x.1 x.2.1 (ss.map (λU=>U.1)) pt,v,.bool b] (HW n c f (T2 t))) (HW n c f (T2 t))):=by
 have h64:=f64 (k:=k) (n:=n) (c:=c) (m:=mem f (T2 t)) hx (ss.map (λU=>U.1)) pt;have uS:=qH (k:=k+1) (n:=n) (c:=c) (f:=f) h hp hx;unfold Spot at uS;rw [Mg];cases hg:g8 x.2.2 (ss.map (λU=>U.2)) pt with
 |false=>
  rw [hg] at uS;refine ae λaA=>?_;obtain ⟨e,w,uS,he⟩:=uS;refine aA ?_;exact ⟨e,w,go [64,68] (st h64 (stx uS ex)),he⟩
 |true=>
  rw [hg] at uS;obtain ⟨X,hX⟩: ∃X,oU [45,48,64,68,73] (k+24) 74 [.ref 48,rf x.1 x.2.1 (ss.map (λU=>U.1)) pt,v,.bool b] (HW n c f (T2 t))=X:=⟨_,rfl⟩;have Q: ∀z w,_:=λz w=>by
   have q:=ai (ai (ai (f74 k n c f (T2 t) (rf x.1 x.2.1 (ss.map (λU=>U.1)) pt) v b z w) (mE hx)) hp) h.vec;dsimp only at q;rw [hg,hX] at q;exact kj (ag q)
  have G: ∀{o},X.int rn=o->rn (k+24) 74 [.ref 48,rf x.1 x.2.1 (ss.map (λU=>U.1)) pt,v,.bool b] (HW n c f (T2 t))=o:=λh=>go [45,48,64,68,73] (hX▸h);clear hX;have hy:Hy _ [.ok (.val (.bool false)) (HW n c f (T2 t)),.ok (.val (.tup [.ref 52,.int (off x.2.2 (ss.map (λU=>U.2))),shape x.2.2 pt])) (HW n c f (T2 t))]:=.cons h64 (.cons uS .nil);show cond (gP x.2.2 pt) _ _;cases h1:gP x.2.2 pt with
  |false=>
   have q2:=(Q 0 λU=>0).2;rw [h1] at q2;refine ae λb8=>?_;obtain ⟨q3,q4⟩:=kj (ag q2);obtain ⟨e,w,q5,he⟩:=qB q4;refine b8 ?_;exact ⟨e,w,G ((bL hy X q3).trans (ex q5)),he⟩
  |true=>
   refine ae λjT=>?_;obtain ⟨hn,e⟩:=Mf h1;subst e;obtain ⟨z,h45⟩:=g45 (k+21) (HW n c f (T2 t)) b hv;have iS:=uD (t:=t) hf (mE hx) h.vec hg hn;have d1:=iS.1;have QT:=ZV (k+22) (HW n c f (T2 t)) (u:=z) (jY x.2.2) (bt d1.le (aw rfl));obtain ⟨l,YC,hl,hfl⟩:=g73 (k+19) (HW n c f (T2 t)) d1 z;refine jT ?_;have q2:=(Q z (at' 48 l)).1;rw [h1] at q2;have iS:=kj (ag q2);have qa:=iS.1;have qb:=iS.2;have hz: ∀r,rn (k+23) 48 [.int z,.int (jY x.2.2)] (HW n c f (T2 t))=r->_:=λr (h:_=r)=>hy.app (.cons (a:=.ok (.val (.int z)) _) h45 .nil);cases hb:decide (ab z<10^jY x.2.2) with
   |false=>
    rw [hb] at QT;exact ⟨true,f,T2 t,G ((bL ((hz _ QT).app (.cons (a:=.ok (.val (.bool false)) _) QT .nil)) X (congrArg (λU=>U.1) qa)).trans (ok (congrArg (λU=>U.2) qa))),hf,λU U=>rfl,λU=>rfl,YB t⟩
   |true=>
    rw [hb] at QT;have D:=KY hfl;have el:bB (jY x.2.2) (at' 48 l)=l:=hl▸(zz 48 l).symm;have YC:rn (k+23) 73 [Sn (jY x.2.2),.int z] (HW n c f (T2 t))=.ok (.val (.bytes (bB (jY x.2.2) (at' 48 l)))) (HW n c f (T2 t)):=by rw [el];exact YC
    refine ⟨false,_,_,G ((bL ((hz _ QT).app (.cons (a:=.ok (.val (.bool true)) _) QT (.cons (a:=.ok (.val (.bytes (bB (jY x.2.2) (at' 48 l)))) _) YC .nil))) X (congrArg (λU=>U.1) qb)).trans (ok (congrArg (λU=>U.2) qb))),λj=>?_,λj hj=>?_,λh=>?_,?_⟩
    ·unfold Qj;cases ins x.2.2 (ss.map (λU=>U.2)) j
     ·exact hf j
     ·exact D _
    ·unfold Qj;rw [hj];rfl
    ·unfold Qk;rw [bne h];rfl
    ·unfold Qk;cases bo x.2.2 36
     ·exact YB t
     ·exact D _
theorem zH(hx:x∈fQ)(l:List V):Exc (rn (k+24) 74 [.ref 48,rf x.1 x.2 l pt,v,.bool b] (HW n c f (T2 t))) (HW n c f (T2 t)):=by
 refine ae λaA=>?_;obtain ⟨e,w,uS,he⟩:=sF (k:=k+1) (n:=n) (c:=c) (f:=f) (t:=t) (pt:=pt) hx l;refine aA ?_;exact ⟨e,w,go [64,68] (st (UK (k:=k) (n:=n) (c:=c) (m:=mem f (T2 t)) hx l pt) (stx uS ex)),he⟩
end
structure Goal(t:Bool)(r:V)(g:Bool)(i:Nat)(ws:List Nat):Prop where
 p: ∀k n c m,Uq (k+24) (W n c m) r g
 v: ∀k n c f,iV f->qF (k+24) (HW n c f (T2 t)) r g
 s: ∀k n c f v b,iV f->Num 15 v->cond g (GX k n c f (T2 t) r v b i ws) (Exc (rn (k+24) 74 [.ref 48,r,v,.bool b] (HW n c f (T2 t))) (HW n c f (T2 t)))
noncomputable def qJ:List (List Nat×Nat):=[([43],40),([45],41),([42],42),([47],44)]
noncomputable def c2:V:=.ou 102 [.ref 48]
noncomputable def c3:V:=.ou 103 [.ref 48]
def VN(k:Nat)(H:Hp)(r w:V)(rd:Bool)(o:List Nat):Res:=oU [40,41,42,44,70,74] (k+26) 76 [.tup [r,.bool rd,.str o],w,c2,c3] H
theorem p76(k:Nat)(H H':Hp)(r w a z:V)(rd:Bool)(b:V):qJ.map (λo=>nq (VN k H r w rd o.1) [.ok (.val a) H,.ok (.val z) H,.ok (.val b) H'])=qJ.map λo=>([some (k+24,70,[.ref 48,r],H),some (k+24,o.2,[a,w],H),some (k+24,74,[.ref 48,r,z,.bool rd],H)],.ok (.val b) H'):=by kernel_rfl
theorem YD(k:Nat)(H:Hp)(r w u:V)(rd:Bool):qJ.map (λo=>[0,1].map λe=>nq (VN k H r w rd o.1) [.exc e u H])=qJ.map λU=>[0,1].map λe=>([some (k+24,70,[.ref 48,r],H)],.exc e u H):=by kernel_rfl
theorem YE(k:Nat)(H:Hp)(r w a u:V)(rd:Bool):nq (VN k H r w rd [47]) [.ok (.val a) H,.exc 2 u H]=([some (k+24,70,[.ref 48,r],H),some (k+24,44,[a,w],H)],.ok (.val (.bool true)) H):=by kernel_rfl
theorem YF(h:aT e 2=true):e∈[0,1]:=by
 match e,h with
 |0,_=>decide
 |1,_=>decide
 |e+2,h=>exact absurd (aZ h) (px.mpr (ky _ _))
def Put(n c:Int)(f:Nat->Nat)(t:Nat)(x:Res)(g:Bool)(i:Nat)(ws:List Nat):Prop:=cond g (∃b' f' t',x=.ok (.val (.bool b')) (HW n c f' t')/\Kept i ws f t f' t') (Exc x (HW n c f t))
section
variable{k:Nat}{n c:Int}{f:Nat->Nat}{t:Bool}{r w:V}{g rd:Bool}{i b:Nat}{ws:List Nat}
theorem op4(N:Num 1 a)(hw:Num b w)(h1:1<=b)(h5:b<=5)(hj:(o,j)∈qJ):(∃z,rn (k+24) j [a,w] H=.ok (.val z) H/\Num 15 z)\/(o=[47]/\ ∃u,rn (k+24) 44 [a,w] H=.exc 2 u H):=by
 have m:1+b<=15:=bt (dV h5 1) (by decide);simp only [qJ,de,eP,or_false,Prod.mk.injEq] at hj;rcases hj with ⟨rfl,rfl⟩|⟨rfl,rfl⟩|⟨rfl,rfl⟩|⟨rfl,rfl⟩
 ·exact .inl ((ZT (k+22) H N hw (eb 1) h1 (bt m (by decide))).imp λz h=>⟨h.1,h.2.mono m⟩)
 ·exact .inl ((ZU (k+22) H N hw (eb 1) h1 (bt m (by decide))).imp λz h=>⟨h.1,h.2.mono m⟩)
 ·exact .inl ((ZW (k+21) H N hw (bt (dV h5 1) (by decide))).imp λz h=>⟨h.1,h.2.mono m⟩)
 ·exact (g44 (k+22) H N hw (aw rfl) h5).imp id λh=>⟨rfl,h⟩
theorem g76(G:Goal t r g i ws)(hf:iV f)(hw:Num b w)(h1:1<=b)(h5:b<=5)(ho:o∈ways):Put n c f (T2 t) (rn (k+26) 76 [.tup [r,.bool rd,.str o],w,c2,c3] (HW n c f (T2 t))) g i ws:=by
 have V:=G.v k n c f hf;have S:=λz (N:Num 15 z)=>G.s k n c f z rd hf N;obtain ⟨X,hX⟩: ∃X,VN k (HW n c f (T2 t)) r w rd=X:=⟨_,rfl⟩;have go': ∀{o y},(X o).int rn=y->rn (k+26) 76 [.tup [r,.bool rd,.str o],w,c2,c3] (HW n c f (T2 t))=y:=λh=>go [40,41,42,44,70,74] (by subst hX;exact h);have P1:=λH' a z b=>p76 k (HW n c f (T2 t)) H' r w a z rd b;have P2:=λu=>YD k (HW n c f (T2 t)) r w u rd;have P3:=λa u=>YE k (HW n c f (T2 t)) r w a u rd;rw [hX] at P1 P2 P3;have h4:o=[61]\/ ∃j,(o,j)∈qJ:=by
  simp only [ways,de,eP,or_false] at ho;rcases ho with rfl|rfl|rfl|rfl|rfl
  ·exact .inl rfl
  ·exact .inr ⟨40,by decide⟩
  ·exact .inr ⟨41,by decide⟩
  ·exact .inr ⟨42,by decide⟩
  ·exact .inr ⟨44,by decide⟩
 clear hX ho;rcases h4 with rfl|⟨j,hj⟩
 ·have S:=S w (hw.mono (bt h5 (aw rfl)));cases g with
  |false=>
   obtain ⟨e,u,h,he⟩:=S;exact ⟨e,u,go [74] (stx h ex),he⟩
  |true=>
   obtain ⟨b',f',t',h,K⟩:=S;exact ⟨b',f',t',go [74] (st h ok),K⟩
 ·cases g with
  |false=>
   obtain ⟨e,u,h,he⟩:=V.bad rfl;have q:=ai (ai (P2 u) hj) (YF he);exact ⟨e,u,go' ((bL (.cons (a:=.exc e u _) h .nil) _ (congrArg (λU=>U.1) q)).trans (ex (congrArg (λU=>U.2) q))),he⟩
  |true=>
   obtain ⟨a,h,N⟩:=V.ok rfl;rcases op4 (k:=k) (H:=HW n c f (T2 t)) N hw h1 h5 hj with ⟨z,hz,N'⟩|⟨e,u,hu⟩
   ·obtain ⟨b',f',t',hs,K⟩:=S z N';have q:=ai (P1 (HW n c f' t') a z (.bool b')) hj;exact ⟨b',f',t',go' ((bL (.cons (a:=.ok (.val a) _) h (.cons (a:=.ok (.val z) _) hz (.cons (a:=.ok (.val (.bool b')) _) hs .nil))) _ (congrArg (λU=>U.1) q)).trans (ok (congrArg (λU=>U.2) q))),K⟩
   ·subst e;have q:=P3 a u;exact ⟨true,f,T2 t,go' ((bL (.cons (a:=.ok (.val a) _) h (.cons (a:=.exc 2 u _) hu .nil)) _ (congrArg (λU=>U.1) q)).trans (ok (congrArg (λU=>U.2) q))),hf,λU U=>rfl,λU=>rfl,YB t⟩
end
structure k9(t:Bool)extends Row where
 i:Nat
 ws:List Nat
 w:way∈ways
 G:Goal t ref g i ws
section
variable{t:Bool}
noncomputable def jC(x:k9 t)(y:Option (k9 t)):List V:=x.v::y.elim [] λy=>[y.v]
def mF(x:k9 t)(y:Option (k9 t)):Bool:=band x.g (y.elim true λy=>y.g)
structure Ml(x:k9 t)(y:Option (k9 t))(f f':Nat->Nat)(t':Nat):Prop where
 d:iV f'
 s: ∀j,ins x.i x.ws j=false->(∀z,y=some z->ins z.i z.ws j=false)->f' j=f j
 t:x.i≠36->(∀z,y=some z->z.i≠36)->t'=T2 t
end
theorem YG(k:Nat)(H H1 H2:Hp)(v v2 w u:V)(e:Nat):bools.map (λb=>(nq (oU [76] (k+28) 78 [.ref 48,.tup [v],w] H) [.ok (.val (.bool b)) H1],nq (oU [76] (k+28) 78 [.ref 48,.tup [v,v2],w] H) [.ok (.val (.bool b)) H1,.exc e u H2],bools.map λb2=>nq (oU [76] (k+28) 78 [.ref 48,.tup [v,v2],w] H) [.ok (.val (.bool b)) H1,.ok (.val (.bool b2)) H2]))=
  bools.map λb=>(([some (k+26,76,[v,w,c2,c3],H)],.ok (.val (.bool b)) H1),([some (k+26,76,[v,w,c2,c3],H),some (k+26,76,[v2,w,c2,c3],H1)],.exc e u H2),bools.map λb2=>([some (k+26,76,[v,w,c2,c3],H),some (k+26,76,[v2,w,c2,c3],H1)],.ok (.val (.bool (cond b2 true b))) H2)):=by kernel_rfl
theorem YH(k:Nat)(H:Hp)(v w u:V)(e:Nat)(l:List V):nq (oU [76] (k+28) 78 [.ref 48,.tup (v::l),w] H) [.exc e u H]=([some (k+26,76,[v,w,c2,c3],H)],.exc e u H):=by kernel_rfl
section
variable{k:Nat}{n c:Int}{f:Nat->Nat}{t:Bool}{w:V}{b:Nat}
theorem g78(x:k9 t)(y:Option (k9 t))(YI: ∀z,y=some z->x.i≠36)(hf:iV f)(hw:Num b w)(h1:1<=b)(h5:b<=5):
  cond (mF x y) (∃v f' t',rn (k+28) 78 [.ref 48,.tup (jC x y),w] (HW n c f (T2 t))=.ok (.val (.bool v)) (HW n c f' t')/\Ml x y f f' t') (∃e u f' t',rn (k+28) 78 [.ref 48,.tup (jC x y),w] (HW n c f (T2 t))=.exc e u (HW n c f' t')/\aT e 2=true):=by
 have P:=g76 (k:=k) (n:=n) (c:=c) (rd:=x.rd) x.G hf hw h1 h5 x.w;unfold mF;cases hx:x.g with
 |false=>
  rw [hx] at P;refine ae λaA=>?_;obtain ⟨e,u,h,he⟩:=P;refine aA ?_;have q:=YH k (HW n c f (T2 t)) x.v w u e (y.elim [] λy=>[y.v]);exact ⟨e,u,f,T2 t,go [76] ((bL (.cons (a:=.exc e u _) h .nil) _ (congrArg (λU=>U.1) q)).trans (ex (congrArg (λU=>U.2) q))),he⟩
 |true=>
  rw [hx] at P;refine ae λb8=>?_;obtain ⟨b1,f1,t1,h,K⟩:=P;refine b8 ?_;cases y with
  |none=>
   have q:=congrArg (λU=>U.1) (ai (YG k (HW n c f (T2 t)) (HW n c f1 t1) [] x.v .none w .none 0) (jA b1));exact ⟨b1,f1,t1,go [76] ((bL (.cons (a:=.ok (.val (.bool b1)) _) h .nil) _ (congrArg (λU=>U.1) q)).trans (ok (congrArg (λU=>U.2) q))),K.d,λj a U=>K.s j a,λa U=>K.t a⟩
  |some z=>
   have et:=K.t (YI z rfl);subst et;have P:=g76 (k:=k) (n:=n) (c:=c) (rd:=z.rd) z.G K.d hw h1 h5 z.w;show cond (band true z.g) _ _;cases hz:z.g with
   |false=>
    rw [hz] at P;refine ae λjT=>?_;obtain ⟨e,u,h2,he⟩:=P;refine jT ?_;have q:=congrArg (λU=>U.2.1) (ai (YG k (HW n c f (T2 t)) (HW n c f1 (T2 t)) (HW n c f1 (T2 t)) x.v z.v w u e) (jA b1));exact ⟨e,u,f1,T2 t,go [76] ((bL (.cons (a:=.ok (.val (.bool b1)) _) h (.cons (a:=.exc e u _) h2 .nil)) _ (congrArg (λU=>U.1) q)).trans (ex (congrArg (λU=>U.2) q))),he⟩
   |true=>
    rw [hz] at P;refine ae λCr=>?_;obtain ⟨b2,f2,t2,h2,K2⟩:=P;refine Cr ?_;have q':=congrArg (λU=>U.2.2) (ai (YG k (HW n c f (T2 t)) (HW n c f1 (T2 t)) (HW n c f2 t2) x.v z.v w .none 0) (jA b1));dsimp only at q';have q:=ai q' (jA b2);exact ⟨_,f2,t2,go [76] ((bL (.cons (a:=.ok (.val (.bool b1)) _) h (.cons (a:=.ok (.val (.bool b2)) _) h2 .nil)) _ (congrArg (λU=>U.1) q)).trans (ok (congrArg (λU=>U.2) q))),K2.d,λj a b=>(K2.s j (b z rfl)).trans (K.s j a),λU a=>K2.t (a z rfl)⟩
end
def VO(p:Nat×Nat)(j:Nat):Bool:=band (eh p.1 j) (gp j (p.1+p.2))
def free(l:List (Nat×Nat)):List Nat:=(cc 29).filter λj=>cond (l.any λp=>VO p j) false true
noncomputable def Mm:List (Nat×Nat):=[(7,4),(15,2),(19,2),(27,1),(28,1)]
def SP:List (List (Nat×Nat)):=Mm.flatMap λa=>[a]::Mm.map λb=>[a,b]
noncomputable def CZ(p:Nat×Nat):V:=.tup [.int p.1,.int p.2]
def VP(k:Nat)(n c:Int)(m f:Nat->Nat)(t:Nat)(e rs sp:V):Res:=oU [35,63,78,1005] (k+29) 90 [.ref 48,.bytes (mem f t),e,rs,sp] (W n c (bB 29 m))
def YJ(k:Nat)(n c:Int)(m:Nat->Nat)(e rs:V):Qn:=some (k+28,35,[.ref 1,e,rs],W n c (bB 29 m))
def YK(k:Nat)(H:Hp)(e:V):Qn:=some (k+28,63,[e,ou],H)
noncomputable def q78(k:Nat)(H:Hp)(rs r:V):Qn:=some (k+28,78,[.ref 48,rs,r],H)
section
variable(k:Nat)(n c:Int)(m f f':Nat->Nat)(t t' M:Nat)(e rs sp r u:V)(F:Nat->V)(H':Hp)
theorem b1:[0,1].map (λi=>nq (VP k n c m f t e rs sp) [aL (M+1) F (W n c (bB 29 m)),.exc i u (HW n c f t)])=[0,1].map λU=>([YJ k n c m e rs,YK k (HW n c f t) e],.ok (.val (.bool false)) (HW n c f t)):=by kernel_rfl
theorem b2:[0,1].map (λi=>nq (VP k n c m f t e rs sp) [aL (M+1) F (W n c (bB 29 m)),.ok (.val r) (HW n c f t),.exc i u H'])=[0,1].map λU=>([YJ k n c m e rs,YK k (HW n c f t) e,q78 k (HW n c f t) rs r],.ok (.val (.bool false)) H'):=by kernel_rfl
theorem b3(v:Bool):SP.map (λl=>nq (VP k n c m f t e rs (.list (l.map CZ))) (aL 0 F (W n c (bB 29 m)):: .ok (.val r) (HW n c f t):: .ok (.val (.bool v)) (HW n c f' t'):: .ok (.val (.bool false)) (HW n c f' t')::(free l).map λU=>.ok (.val (.bool false)) (HW n c f' t')))=
  SP.map λl=>(YJ k n c m e rs::YK k (HW n c f t) e::q78 k (HW n c f t) rs r::some (k+28,1005,[.int 29,.int 29],HW n c f' t')::(free l).map λj=>some (k+28,1005,[.int (at' 0 (mem f' t') j:Nat),.int (at' 0 (mem f t) j:Nat)],HW n c f' t'),.ok (.val (.bool true)) (HW n c f' t')):=by kernel_rfl
end
structure fK(t:Bool)(v:V)(g:Bool):Prop where
 f: ∀k n c m,xe (k+24) (W n c m) v g
 v: ∀k n c f,iV f->qF (k+24) (HW n c f (T2 t)) v g
theorem Tr.All.mono{P Q:V->Bool->Prop}(h: ∀v g,P v g->Q v g): ∀{T:Tr},T.All P->T.All Q
 | .leaf _ _,H=>⟨H.1,h _ _ H.2⟩
 | .neg a,H=>Tr.All.mono (T:=a) h H
 | .bin _ a b,H=>⟨H.1,Tr.All.mono (T:=a) h H.2.1,Tr.All.mono (T:=b) h H.2.2⟩
theorem GY(h:j∈free l)(hp:p∈l):VO p j=false:=by
 have h2:=(FR.mp h).2;cases q:VO p j with
 |false=>rfl
 |true=>
  rw [show l.any (λp=>VO p j)=true from ph.mpr ⟨p,hp,q⟩] at h2;exact absurd h2 (by decide)
theorem GZ(f:Nat->Nat)(t:Nat):(cc 29).map (at' 0 (mem f t))=(cc 29).map λj=>cond (bo j 27) t (f j):=by kernel_rfl
theorem Mn(k:Nat)(H:Hp)(a b:Nat->Nat): ∀{L:List Nat},(∀j∈L,a j=b j)->Hy (L.map λj=>some (k,1005,[.int (a j:Nat),.int (b j:Nat)],H)) (L.map λU=>.ok (.val (.bool false)) H)
 |[],_=>.nil
 |j::L,h=>.cons (ZP (v:=true) (decide_eq_true (congrArg _ (h j bj))) _ _) (Mn k H a b λi hi=>h i (cb _ hi))
structure Small(T:Tr):Prop where
 d:T.dp<=3
 n:T.nl<=4
 s:T.size<=100
 d2:T.d2<=6
 c:T.code.length<=8
 p:T.ps<=100
section
variable{k:Nat}{n c:Int}{f:Nat->Nat}{t:Bool}
def G0(x:k9 t)(y:Option (k9 t)):List (Nat×Nat):=(off x.i x.ws,jY x.i)::y.elim [] λy=>[(off y.i y.ws,jY y.i)]
theorem C0{x:k9 t}(K:Ml x y f f' t'){j:Nat}(hj:j∈free (G0 x y)):at' 0 (mem f' t') j=at' 0 (mem f (T2 t)) j:=by
 have hr:=(FR.mp hj).1;have e2:=ai (GZ f (T2 t)) hr;have hx:ins x.i x.ws j=false:=GY hj bj;have hy: ∀z,y=some z->ins z.i z.ws j=false:=λz e=>by subst e;exact GY hj (cb _ bj)
 rw [(ai (GZ f' t') hr),e2,K.s j hx hy];cases q:bo j 27 with
 |false=>rfl
 |true=>
  have e:=cq q;subst e;have no: ∀{i ws},ins i ws 27=false->i≠36:=λh e=>by subst e;exact bI (show false=true from h.symm)
  exact K.t (no hx) λz e=>no (hy z e)
theorem YL(x:k9 t)(y:Option (k9 t))(YI: ∀z,y=some z->x.i≠36)(hf:iV f){T:Tr}(hT:T.All (fK t))(B:Small T)(hs:mF x y=true->sp=.list ((G0 x y).map CZ)/\G0 x y∈SP):
  ∃m',rn (k+29) 90 [.ref 48,.bytes (mem f (T2 t)),T.v,.tup (jC x y),sp] (W n c (bB 29 m))=.ok (.val (.bool (band T.good (mF x y)))) (W n c (bB 29 m')):=by
 have UM: ∃M,zA M (rn (k+28) 35 [.ref 1,T.v,.tup (jC x y)] (W n c (bB 29 m))) (W n c (bB 29 m))/\bo M 0=band T.good (mF x y):=by
  have R: ∀z:k9 t,KR (k+27) (W n c (bB 29 m)) z.toRow:=λz=>⟨z.w,z.G.p (k+3) n c _⟩;have H:=g35 (k:=k+26) (T:=T) (H:=W n c (bB 29 m)) (hT.mono λv g h=>GK (h.f (k+2) n c _)) B.d B.n B.s (R x) (y.map (λU=>U.toRow)) (λz e=>by
   cases y with
   |none=>exact bw e
   |some y=>exact ag e▸R y)
  cases y<;>exact H
 refine ae λaA=>?_;obtain ⟨M,⟨F,UM⟩,hM⟩:=UM;have h63:=g63 (k:=k+22) (H:=HW n c f (T2 t)) (T:=T) (hT.mono λv g h=>h.v (k+2) n c f hf) (bt B.n (aw rfl)) B.d2 B.c B.p;obtain ⟨X,hX⟩: ∃X,VP k n c m f (T2 t) T.v (.tup (jC x y)) sp=X:=⟨_,rfl⟩;refine aA ?_;have go': ∀{o},X.int rn=o->rn (k+29) 90 [.ref 48,.bytes (mem f (T2 t)),T.v,.tup (jC x y),sp] (W n c (bB 29 m))=o:=λh=>go [35,63,78,1005] (by subst hX;exact h);cases hg:T.good with
 |false=>
  rw [hg] at hM;refine ae λb8=>?_;obtain ⟨M,rfl⟩: ∃M',M=M'+1:=by
   cases M with
   |zero=>exact bI hM.symm
   |succ M=>exact ⟨M,rfl⟩
  obtain ⟨e,u,h,he⟩:=h63.2 hg;refine b8 ?_;have q:=ai (b1 k n c m f (T2 t) M T.v (.tup (jC x y)) sp u F) (YF he);rw [hX] at q;exact ⟨at' 0 (mem f (T2 t)),go' ((bL (.cons (a:=aL (M+1) F _) UM (.cons (a:=.exc e u _) h .nil)) _ (congrArg (λU=>U.1) q)).trans (ok (congrArg (λU=>U.2) q)))⟩
 |true=>
  refine ae λjT=>?_;obtain ⟨r,h,N⟩:=h63.1 hg;refine jT ?_;have VQ:=g78 (k:=k) (n:=n) (c:=c) x y YI hf (hw:=N) (aw rfl) (aw rfl);rw [hg] at hM;cases hr:mF x y with
  |false=>
   rw [hr] at hM VQ;refine ae λCr=>?_;obtain ⟨M,rfl⟩: ∃M',M=M'+1:=by
    cases M with
    |zero=>exact bI hM.symm
    |succ M=>exact ⟨M,rfl⟩
   obtain ⟨e,u,f',t',h2,he⟩:=VQ;refine Cr ?_;have q:=ai (b2 k n c m f (T2 t) M T.v (.tup (jC x y)) sp r u F (HW n c f' t')) (YF he);rw [hX] at q;exact ⟨at' 0 (mem f' t'),go' ((bL (.cons (a:=aL (M+1) F _) UM (.cons (a:=.ok (.val r) _) h (.cons (a:=.exc e u _) h2 .nil))) _ (congrArg (λU=>U.1) q)).trans (ok (congrArg (λU=>U.2) q)))⟩
  |true=>
   rw [hr] at hM VQ;refine ae λSo=>?_;obtain ⟨v,f',t',h2,K⟩:=VQ;have e:=cq hM;subst e;obtain ⟨e1,e2⟩:=hs hr;subst e1;refine So ?_;have q:=ai (b3 k n c m f f' (T2 t) t' T.v (.tup (jC x y)) r F v) e2;rw [hX] at q;exact ⟨at' 0 (mem f' t'),go' ((bL (.cons (a:=aL 0 F _) UM (.cons (a:=.ok (.val r) _) h (.cons (a:=.ok (.val (.bool v)) _) h2 (.cons (a:=.ok (.val (.bool false)) _) (ZP (a:=29) (b:=29) (v:=true) rfl _ _) (Mn _ _ _ _ λj hj=>C0 K hj))))) _ (congrArg (λU=>U.1) q)).trans (ok (congrArg (λU=>U.2) q)))⟩
end
theorem YM{a:Nat}(h:a<2^60)(h2:2<=a):Tq 1003 [.int a,.int 11] (.int (a^11:Nat)):=by
 rw [Int.natCast_pow];refine λU U=>CV (z:=(a:Int)^11) ?_;unfold rt band aT;rw [aav,g0.mpr h,pt (show (2:Int)<=a from kV.mpr h2)];rfl
section
variable(k:Nat){n c M:Nat}(m:List Nat)
inductive D80(k M n c:Nat)(m:List Nat):Prop
 |mk (d n' c':Nat):rn (k+1) 80 [.ref 0,.int M] (W n c m)=.ok (.val (.int d)) (W n' c' m)->d<M->c'<=c+1->D80 k M n c m
theorem uX(hM:0<M)(h3:M<1000)(hc:c<=10^6):D80 k M n c m:=by
 have hb:Bd 400 (M:Int):=Bd.mono (k:=3) h3 (aw rfl);have hz:(M:Int)≠0:=λe=>vl hM (abz e);have F: ∀p:Nat,(rx p M=(p % M:Nat))/\ib p M=(p/M:Nat):=λp=>⟨(Int.ofNat_fmod p M).symm,(Int.ofNat_fdiv p M).symm⟩;have T1:=λp:Nat=>(F p).1▸TZ p hb hz;have T2:=λp:Nat=>(F p).2▸TY p hb hz;cases q:decide ((n:Int)=0) with
 |false=>exact ⟨n % M,n/M,c,go [1000,1001,1002,1003,1004] (tq (TV q) (tq (T1 n) (tq (T2 n) ok))),Nat.mod_lt _ hM,tI c⟩
 |true=>
  have hm:c+1<10^7:=dA (sa hc) (aw rfl);have hp:=YM (a:=1733*(c+1)+4099) (dA (eM (il 1733 (kp hm)) _) (aw rfl)) (bt (by decide:2<=4099) (ky 4099 _));generalize (1733*(c+1)+4099)^11=p at hp;exact ⟨p % M,p/M,c+1,go [1000,1001,1002,1003,1004] (tq (TV q) (tq (C6 (a:=1733) (b:=(c+1:Nat)) (Bd.mono (k:=4) (show 1733<10^4 by decide) (by decide)) (Bd.mono (k:=7) hm (by decide))) (tq hp (tq (T1 p) (tq (T2 p) ok))))),Nat.mod_lt _ hM,eb _⟩
end
def VR:List fF:=[(af (aj 1) (aE .add (aE .add (aE .mul (aa 1) (ak 1009)) (aE .mod (lE (mP (aa 2))) (aE .pow (ak 10) (ak 40)))) (aE .mul (aE .mul (ak 7) (aE .pow (ak 10) (ak 41))) (mP (bT (ay .lt (aa 2) (ak 0)))))))]
def Bc(l:List V)(a:Int)(s:Bool)(x:V):Env:=[.val (.list l),.val (.int a),sv s x,.empty,.empty,.empty]
theorem VS(v:V):Nt (dW (aj 2) v (br VR)):=uR (jy _) (iT ((show (Hu 79 1).m=VR by kernel_rfl)▸(Hu 79 1).nt))
theorem QU(h:lD a b=true):Tq 1000 [.int a,.int b] (.int (a*b)):=λU U=>CV h
theorem xh(h:small b=true):lD a b=true:=by unfold lD;rw [h];rfl
theorem Ql(k:Nat)(l:List V)(a i:Int)(s:Bool)(x:V)(ha:0<=a): ∃b,0<=b/\dW (aj 2) (.int i) (br VR) (rn k) (Bc l a s x) []=.ok .next (Bc l b true (.int i)) []:=by
 have hb:Bd 400 ((10:Int)^40):=Bd.C5 (aw rfl);have hz:(10:Int)^40≠0:=by decide
 have T1:=QU (a:=a) (b:=1009) (xh rfl);have T2:=Gz (b:=40) (k:=40) rfl (aw rfl);have T3:=TZ (ab i) hb hz;have T4:=Gz (b:=41) (k:=41) rfl (aw rfl);have T5:=QU (a:=7) (b:=10^41) rfl;have h3:0<=rx (ab i) (10^40):=by rw [w7];exact Int.fmod_nonneg (eI _) (by decide)
 have h1:0<=a*1009:=Int.mul_nonneg ha (by decide);generalize rx (ab i) (10^40)=z at T3 h3;generalize a*1009=y at T1 h1;cases s<;>cases q:decide (i<0)
 ·exact ⟨_,pv (pv h1 h3) (show (0:Int)<=7*10^41*0 by decide),Gx [1000,1002,1003,1006] (VS _) (jX T1 (jX T2 (jX T3 (jX T4 (jX T5 (jX (xw q) (jX (QU (a:=7*10^41) (b:=0) (xh rfl)) L4)))))))⟩
 ·exact ⟨_,pv (pv h1 h3) (show (0:Int)<=7*10^41*1 by decide),Gx [1000,1002,1003,1006] (VS _) (jX T1 (jX T2 (jX T3 (jX T4 (jX T5 (jX (xw q) (jX (QU (a:=7*10^41) (b:=1) (xh rfl)) L4)))))))⟩
 ·exact ⟨_,pv (pv h1 h3) (show (0:Int)<=7*10^41*0 by decide),Gx [1000,1002,1003,1006] (VS _) (jX T1 (jX T2 (jX T3 (jX T4 (jX T5 (jX (xw q) (jX (QU (a:=7*10^41) (b:=0) (xh rfl)) L4)))))))⟩
 ·exact ⟨_,pv (pv h1 h3) (show (0:Int)<=7*10^41*1 by decide),Gx [1000,1002,1003,1006] (VS _) (jX T1 (jX T2 (jX T3 (jX T4 (jX T5 (jX (xw q) (jX (QU (a:=7*10^41) (b:=1) (xh rfl)) L4)))))))⟩
theorem Qm(k n:Nat)(l:List V)(L:List Int)(d:Nat): ∀(p:Nat) (a:Int) (s:Bool) (x:V),p+d=L.length->0<=a-> ∃b s' x',0<=b/\forLoop (n+d+1) p (aj 2) (.vals (L.map .int)) (br VR) (rn k) (Bc l a s x) []=.ok .next (Bc l b s' x') []:=by
 induction d with
 |zero=>exact λp a s x h ha=>⟨a,s,x,ha,mD (jk (by rw [df];exact ke h.symm))⟩
 |succ d ih=>
  intro p a s x h ha;obtain ⟨i,hi⟩:=lM (l:=L) (i:=p) (h▸kl (mf d));obtain ⟨b,hb,e⟩:=Ql k l a i s x ha;obtain ⟨b',s',x',hb',e'⟩:=ih (p+1) b true (.int i) ((sb p d).trans h) hb;exact ⟨b',s',x',hb',oV (iB.trans (congrArg (λU=>U.map V.int) hi)) e e'⟩
theorem xj(f:α->β): ∀(n:Nat) (l:List α),take' n (l.map f)=(take' n l).map f
 |0,_=>rfl
 |_+1,[]=>rfl
 |n+1,a::l=>congrArg (λU=>f a::U) (xj f n l)
theorem Be(g:α->β): ∀(k:Nat) (f:Nat->α),(bB k f).map g=bB k λi=>g (f i)
 |0,_=>rfl
 |k+1,f=>congrArg (g (f 0):: ·) (Be g k λi=>f (i+1))
theorem s79(k:Nat)(f:Nat->V)(x:V)(a:Int)(s:Bool):(cc 64).map (λj=>(srcOf (o8 (aa 0) 30) (rn k) (Bc (bB j f) 0 false .none) [],br (drop' 2 TJ.body) (rn k) (Bc (bB j f) a s x) []))=(cc 64).map λj=>(.ok (.vals (take' 30 (bB j f))) (Bc (bB j f) 0 false .none) [],.ok (.ret (.val (.ref 0))) (Bc (bB j f) a s x) [.list [.int a,.int (cond (eh j 30) j 30:Nat)]]):=by kernel_rfl
theorem g79(k:Nat)(ns:List Int)(hl:ns.length<64): ∃n c:Nat,rn (k+1) 79 [.list (ns.map .int)] []=.ok (.val (.ref 0)) [.list [.int n,.int c]]/\c<=30:=by
 have hm:=zz 0 ns;generalize ns.length=j at hl hm;have e:ns.map V.int=bB j λi=>.int (at' 0 ns i):=(congrArg (aaS V.int) hm).trans (Be _ _ _);generalize (λi=>V.int (at' 0 ns i))=f at e;have q:=λx a s=>ai (s79 k f x a s) (rg hl);refine ae λaA=>?_;obtain ⟨n,hf⟩: ∃n,cJ=n+(take' 30 ns).length+1:=by
  have h:(take' 30 ns).length<=30:=by rw [jG];exact List.length_take_le _ _
  exact ⟨cJ-((take' 30 ns).length+1),(tm (jz (sa h) rfl)).symm⟩
 obtain ⟨b,s,x,hb,e2⟩:=Qm k n (bB j f) (take' 30 ns) (take' 30 ns).length 0 0 false .none (fb _) (Int.le_refl 0);refine aA ?_;rw [<-hf, <-xj,e] at e2;refine ae λb8=>?_;obtain ⟨b,rfl⟩: ∃n:Nat,b=n:=⟨b.toNat,(wx hb).symm⟩;refine b8 ?_;rw [e];have e0:aH cF TJ.body 0 (rn k) [.val (.list (bB j f)),.empty,.empty,.empty,.empty,.empty] []=.ok .next (Bc (bB j f) 0 false .none) []:=by kernel_rfl
 have e1:aH cF TJ.body 1 (rn k) (Bc (bB j f) 0 false .none) []=.ok .next (Bc (bB j f) b s x) []:=by
  show (srcOf (o8 (aa 0) 30) _ _ _).bind _=_;rw [show srcOf (o8 (aa 0) 30) (rn k) (Bc (bB j f) 0 false .none) []=_ from congrArg (λU=>U.1) (q x b s)];exact e2
 have e3:br (drop' 2 TJ.body) (rn k) (Bc (bB j f) b s x) []=.ok (.ret (.val (.ref 0))) (Bc (bB j f) b s x) [.list [.int b,.int (cond (eh j 30) j 30:Nat)]]:=congrArg (λU=>U.2) (q x b s);refine ⟨b,cond (eh j 30) j 30,congrArg eB ((bQ e0).trans ((bQ e1).trans e3)),?_⟩;cases h:eh j 30 with
 |true=>exact aw h
 |false=>exact eb _
def subAt(t:Bool)(i:Nat):V×Nat:=aH (nb 1,1) (subs (T2 t)) i
noncomputable def pick(a b:Nat):Nat:=cond (gp a 2) b (cond (gp a 4) a 4)
theorem Qo(t:Bool):((cc 11).all λi=>gp i (subs (T2 t)).length)=true:=by cases t<;>rfl
theorem cI(d:α): ∀{l:List α} {i:Nat},i<l.length->aH d l i∈l
 |[],_,h=>absurd h (xa _)
 |_::_,0,_=>bj
 |_::_,_+1,h=>cb _ (cI d (ui h))
noncomputable def dr(k M:Nat)(H:Hp):Qn:=some (k,80,[.ref 0,.int M],H)
noncomputable def aI(d:Nat)(H:Hp):mO:=.ok (.val (.int d)) H
def x86(k:Nat)(H:Hp)(f:Nat->Nat)(t:Bool):Res:=oU [80] (k+3) 86 [.ref 0,.bytes (mem f (T2 t))] H
noncomputable def o86(p:V×Nat)(H:Hp):Res:=.ok (.val (.tup [p.1,.int p.2])) H
theorem f86(k:Nat)(f:Nat->Nat)(H H1 H2 H3:Hp):bools.map (λt=>((cc 6).map λa=>(cc 2).map λb=>nq (x86 k H f t) [aI a H1,aI b H2],(cc 2).map λb=>(cc 6).map λd=>nq (x86 k H f t) [aI 6 H1,aI b H2,aI d H3]))=
  bools.map λt=>((cc 6).map λa=>(cc 2).map λb=>([dr (k+2) 7 H,dr (k+2) 2 H1],o86 (subAt t (pick a b)) H2),(cc 2).map λb=>(cc 6).map λd=>([dr (k+2) 7 H,dr (k+2) 2 H1,dr (k+2) 6 H2],o86 (subAt t (5+d)) H3)):=by kernel_rfl
theorem KZ:((cc 6).all λa=>(cc 2).all λb=>gp (pick a b) 11)=true:=by rfl
theorem uT{l:List Nat}{p:Nat->Bool}(h:l.all p=true){i:Nat}(hi:i∈l):p i=true:=fi.mp h i hi
theorem G1(t:Bool)(h:i<11):subAt t i∈subs (T2 t):=cI _ (g0.mp (uT (Qo t) (rg h)))
section
variable(k:Nat){n c:Nat}(m:List Nat)(f:Nat->Nat)(t:Bool)
inductive D86(k:Nat)(m:List Nat)(f:Nat->Nat)(t:Bool)(n c:Nat):Prop
 |mk (p:V×Nat):p∈subs (T2 t)-> ∀(n' c':Nat),rn (k+3) 86 [.ref 0,.bytes (mem f (T2 t))] (W n c m)=.ok (.val (.tup [p.1,.int p.2])) (W n' c' m)->c'<=c+3->D86 k m f t n c
theorem g86(hc:c<=9*10^5):D86 k m f t n c:=by
 refine ae λaA=>?_;obtain ⟨a,n1,c1,h1,l1,e1⟩:=uX (k+1) (n:=n) (c:=c) (M:=7) m (aw rfl) (aw rfl) (bt hc (aw rfl));obtain ⟨b,n2,c2,h2,l2,e2⟩:=uX (k+1) (n:=n1) (c:=c1) (M:=2) m (aw rfl) (aw rfl) (iU e1 hc rfl);refine aA ?_;cases q:gp a 6 with
 |true=>
  have l:=g0.mp q;have q:=congrArg (λU=>U.1) (ai (f86 k f (W n c m) (W n1 c1 m) (W n2 c2 m) []) (jA t));dsimp only at q;have q:=ai (ai q (rg l)) (rg l2);exact ⟨_,G1 t (g0.mp (uT (uT KZ (rg l)) (rg l2))),n2,c2,go [80] ((bL (.cons (a:=aI a _) h1 (.cons (a:=aI b _) h2 .nil)) _ (congrArg (λU=>U.1) q)).trans (ok (congrArg (λU=>U.2) q))),AU (dF e2 e1) rfl⟩
 |false=>
  have e:a=6:=Hd (og l1) (aaU (mt g0.mpr (by rw [q];decide: ¬gp a 6=true)));refine ae λb8=>?_;subst e;obtain ⟨d,n3,c3,h3,l3,e3⟩:=uX (k+1) (n:=n2) (c:=c2) (M:=6) m (aw rfl) (aw rfl) (iU (dF e2 e1) hc rfl);refine b8 ?_;have q:=congrArg (λU=>U.2) (ai (f86 k f (W n c m) (W n1 c1 m) (W n2 c2 m) (W n3 c3 m)) (jA t));dsimp only at q;have q:=ai (ai q (rg l2)) (rg l3);exact ⟨_,G1 t (sg l3 5),n3,c3,go [80] ((bL (.cons (a:=aI 6 _) h1 (.cons (a:=aI b _) h2 (.cons (a:=aI d _) h3 .nil))) _ (congrArg (λU=>U.1) q)).trans (ok (congrArg (λU=>U.2) q))),AU (dF e3 (dF e2 e1)) rfl⟩
end
noncomputable def Qp(D:Nat->Nat)(d j:Nat):Nat:=cond (bo j 27) (d+1) (D j)
theorem f84(k:Nat)(H:Nat->Hp)(K:Hp)(D:Nat->Nat)(v:V):(cc 2).map (λd=>nq (oU [80,1010] (k+2) 84 [.ref 0] (H 0)) (bB 29 (λj=>aI (D j) (H (j+1)))++[aI d K,.ok (.val v) K]))=
  (cc 2).map λd=>(bB 29 (λj=>dr (k+1) 10 (H j))++[dr (k+1) 2 (H 29),some (k+1,1010,[.list ((bB 29 (Qp D d)).map LX)],K)],.ok (.val v) K):=by kernel_rfl
theorem m84(D:Nat->Nat):(cc 2).map (λd=>(bB 29 (Qp D d)).map (λU=>48+U))=(cc 2).map λd=>mem (λj=>48+Qp D d j) (T2 (bo d 1)):=by kernel_rfl
theorem Mp{M:Nat}(hM:M<=10): ∀{j:Nat} {D:Nat->Nat},(∀i,i<j->D i<M)->qA (bB j D)
 |0,_,_=>trivial
 |_+1,_,h=>⟨ey (h 0 (mf _)) hM,Mp hM λi hi=>h (i+1) (Ee hi)⟩
section
variable(k:Nat)(m:List Nat)
noncomputable def st2(m:List Nat)(s:Nat×Nat):Hp:=W s.1 s.2 m
inductive Drs(k M:Nat)(m:List Nat)(j n c:Nat):Prop
 |mk (D:Nat->Nat) (s:Nat->Nat×Nat):s 0=(n,c)->(s j).2<=c+j->((∀i,i<j->D i<M))->Hy (bB j λi=>dr (k+1) M (st2 m (s i))) (bB j λi=>aI (D i) (st2 m (s (i+1))))->Drs k M m j n c
theorem draws(M:Nat)(h0:0<M)(h1:M<1000)(j:Nat): ∀n c:Nat,c+j<=10^6->Drs k M m j n c:=by
 induction j with
 |zero=>exact λn c U=>⟨λU=>0,λU=>(n,c),rfl,eb _,λU h=>absurd h (xa _),.nil⟩
 |succ j ih=>
  intro n c h;obtain ⟨d,n1,c1,q,l,e⟩:=uX k (n:=n) (c:=c) (M:=M) m h0 h1 (bt (cw _ _) h);obtain ⟨D,s,a,b,x,y⟩:=ih n1 c1 (QM e h);refine ⟨λi=>i.casesOn d D,λi=>i.casesOn (n,c) s,rfl,(dF b e),λi hi=>?_,.cons ?_ y⟩
  ·cases i with
   |zero=>exact l
   |succ i=>exact x i (ui hi)
  ·show rn (k+1) 80 [.ref 0,.int M] (W n c m)=.ok (.val (.int d)) (st2 m (s 0));rw [a];exact q
inductive D84(k:Nat)(m:List Nat)(n c:Nat):Prop
 |mk (f:Nat->Nat) (t:Bool) (n' c':Nat):rn (k+2) 84 [.ref 0] (W n c m)=.ok (.val (.bytes (mem f (T2 t)))) (W n' c' m)->iV f->c'<=c+30->D84 k m n c
theorem g84(hc:c<=9*10^5):D84 k m n c:=by
 refine ae λaA=>?_;obtain ⟨D,s,a,b,x,y⟩:=draws k m 10 (aw rfl) (aw rfl) 29 n c (jz (eM hc 29) rfl);obtain ⟨d,n1,c1,q,l,e⟩:=uX k (n:=(s 29).1) (c:=(s 29).2) (M:=2) m (aw rfl) (aw rfl) (iU b hc rfl);refine aA ?_;have hD: ∀i,i<29->Qp D d i<10:=λi hi=>by
  unfold Qp;cases bo i 27
  ·exact x i hi
  ·exact ey (Ee l) (aw rfl)
 have hb:=ZX (Mp (eb 10) hD) (by rw [df,KD];rfl);rw [(ai (m84 D) (rg l))] at hb;have q2:=ai (f84 k (λi=>st2 m (s i)) (W n1 c1 m) D (.bytes (mem (λj=>48+Qp D d j) (T2 (bo d 1))))) (rg l);rw [a] at q2;refine ⟨λj=>cond (gp j 29) (48+Qp D d j) 48,bo d 1,n1,c1,go [80,1010] ((bL (y.app (.cons (a:=aI d _) q (.cons (a:=.ok (.val _) _) (hb _ _) .nil))) _ (congrArg (λU=>U.1) q2)).trans (ok (congrArg (λU=>U.2) q2))),λj=>?_,AU (dF e b) rfl⟩;show 48<=cond (gp j 29) _ 48/\cond (gp j 29) _ 48<=57;cases h:gp j 29 with
 |false=>exact ⟨eb 48,(by decide:48<=57)⟩
 |true=>
  have:=hD j (g0.mp h)
  exact ⟨cw _ _,dV (og this) 48⟩
end
noncomputable def VT:List Nat:=[84,45,73]
def nms:List (List Nat):=[uW,nK,zy,uV,nR,nU,KC,nT]
def VU(nm:List Nat):Nat:=cond (bP nm nU) 2 (cond (bP nm nK) 1 (cond (bP nm nT) 1 0))
def C7(nm:List Nat)(z:Nat):Nat:=cond (bo z 4) (VU nm+1) (cond (bo z 5) (VU nm-1) (VU nm))
def qO(nm:List Nat)(w:Nat):List V:=aH [] (cond (bP nm zy) [[],[Z0],[AW],[AW]] [[],[],[qR],[AW]]) w
def rO(nm:List Nat)(w:Nat):Bool:=cond (bP nm zy) (gp 0 w) (cond (bP nm KC) false (gp w (cond (bP nm nR) 2 3)))
def of0(nm:List Nat)(w:Nat):Nat:=cond (bP nm zy) (cond (bo w 1) 28 27) (cond (bP nm uW) 7 (cond (bP nm uV) 3 (cond (bP nm nR) 0 (cond (bP nm nU) 17 15))))
def sz0(nm:List Nat):Nat:=cond (bP nm zy) 1 (cond (bP nm nU) 1 (cond (bP nm nR) 27 (cond (bP nm nK) 2 4)))
def K0(cut:Nat):V:=aH .none [Ui,.tup [nb 1,.none],.tup [nb 1,nb 1]] cut
def VV(nm:List Nat)(w:Nat)(ws:List Nat)(cut:Nat):V:=cond (band (rO nm w) (band (bo ws.length (VU nm)) (band (ws.all λx=>gp 0 x) (gp 0 cut)))) (.tup [.int (of0 nm w+4*(aH 1 ws 0-1)+(aH 1 ws 1-1):Nat),.int (cond (bo cut 2) 1 (sz0 nm):Nat)]) .none
noncomputable def Mq(a b c:Int):V:=.tup [.int a,.int b,.int c]
def tb0:List (List Nat×V):=[(nR,Mq 0 27 0),(ZZ,Mq 0 3 0),(uV,Mq 3 4 0),(uW,Mq 7 4 0),([73,88],Mq 11 4 0),(nT,Mq 15 4 1),(nK,Mq 15 2 1),(nU,Mq 17 1 2)]
def QV(o ns:V)(nm:List Nat)(w:Nat):Env:=[.val (.ref 0),.val o,.val ns,.own (.dict tb0),.val (.str nm),.val (.int w),.empty,.empty,.empty,.empty,.empty,.empty,.empty,.empty,.empty,.empty,.empty,.empty,.empty,.empty,.empty,.empty,.empty,.empty]
def trR(x:Out Flow)(as:List mO):List Qn×Res:=((xg x as).1,eB (xg x as).2)
def Qq(n:Nat):List (List Nat):=vec.filter λws=>bo ws.length n
def UN(a:Nat->V)(ws:List Nat)(H:Nat->Hp)(i:Nat):mO:=.ok (.val (.tup [a i,.int (aH 0 ws i:Nat)])) (H (i+1))
theorem f87(k:Nat)(o ns:V)(H:Nat->Hp)(G K:Hp)(a:Nat->V):nms.map (λnm=>(cc 4).map λw=>(cc 6).map λz=>(Qq (C7 nm z)).map λws=>(cc 9).map λcut=>trR (br (drop' 2 Ks.body) (rs [80,86] (k+3)) (QV o ns nm w) G) (aI z (H 0)::(bB (C7 nm z) (UN a ws H)++[aI cut K])))=
  nms.map λnm=>(cc 4).map λw=>(cc 6).map λz=>(Qq (C7 nm z)).map λws=>(cc 9).map λcut=>(dr (k+3) 6 G::(bB (C7 nm z) (λi=>some (k+3,86,[.ref 0,o],H i))++[dr (k+3) 9 (H (C7 nm z))]),.ok (.val (.tup [rf nm (qO nm w) (bB (C7 nm z) a) (K0 cut),VV nm w ws cut])) K):=by kernel_rfl
def fst(ss:List (V×Nat))(i:Nat):V:=(aH (.none,0) ss i).1
theorem fst_eq: ∀{ss:List (V×Nat)} {j:Nat},ss.length=j->bB j (fst ss)=ss.map (λU=>U.1)
 |[],_,h=>by subst h;rfl
 |p::ss,_,h=>by subst h;exact congrArg (λU=>p.1::U) (fst_eq (ss:=ss) rfl)
section
variable(k:Nat)(m:List Nat)(f:Nat->Nat)(t:Bool)
inductive DSs(k:Nat)(m:List Nat)(f:Nat->Nat)(t:Bool)(j n c:Nat):Prop
 |mk (ss:List (V×Nat)) (s:Nat->Nat×Nat):s 0=(n,c)->(s j).2<=c+3*j->ss.length=j->((∀p∈ss,p∈subs (T2 t)))->Hy (bB j λi=>some (k+3,86,[.ref 0,.bytes (mem f (T2 t))],st2 m (s i))) (bB j (UN (fst ss) (ss.map (λU=>U.2)) λi=>st2 m (s i)))->DSs k m f t j n c
theorem zI(j:Nat): ∀n c:Nat,c+3*j<=9*10^5->DSs k m f t j n c:=by
 induction j with
 |zero=>exact λn c U=>⟨[],λU=>(n,c),rfl,eb _,rfl,λU h=>absurd h eP,.nil⟩
 |succ j ih=>
  intro n c h;obtain ⟨p,hp,n1,c1,q,e⟩:=g86 k (n:=n) (c:=c) m f t (bt (cw _ _) h);obtain ⟨ss,s,a,b,x,y,z⟩:=ih n1 c1 (QM (r:=3*j) (i:=3) e h);refine ⟨p::ss,λi=>i.casesOn (n,c) s,rfl,(dF b e),congrArg (λU=>U+1) x,λr hr=>(de.mp hr).elim (λe=>e▸hp) (y r),.cons ?_ z⟩;show rn (k+3) 86 _ (W n c m)=.ok (.val (.tup [p.1,.int p.2])) (st2 m (s 0));rw [a];exact q
end
theorem UO(hy:Hy qs as)(e:trR x as=(qs,.ok r K)):eB (x.int rn)=.ok r K:=by
 have h:eB (xg x as).2=.ok r K:=congrArg (λU=>U.2) e;rw [uQ hy x (congrArg (λU=>U.1) e)];revert h;generalize (xg x as).2=y;intro h;cases y<;>first|exact h|exact nomatch h
theorem UP:(nms.all λnm=>(cc 6).all λz=>eh (C7 nm z) 3)=true:=by rfl
theorem n87:Nt (br (drop' 2 Ks.body)):=iT λs hs=>jP (k:=87) rfl s (cb _ (cb _ hs))
theorem UQ(hn:nm∈nms)(hz:z<6):C7 nm z<=3:=aw (fi.mp (fi.mp UP nm hn) z (rg hz))
section
variable(k:Nat)(m:List Nat)(f:Nat->Nat)(t:Bool)(ns:V)
inductive UR(k:Nat)(m:List Nat)(f:Nat->Nat)(t:Bool)(ns:V)(nm:List Nat)(w n c:Nat):Prop
 |mk (ss:List (V×Nat)) (cut n' c':Nat):eB (br (drop' 2 Ks.body) (rn (k+3)) (QV (.bytes (mem f (T2 t))) ns nm w) (W n c m))=.ok (.val (.tup [rf nm (qO nm w) (ss.map (λU=>U.1)) (K0 cut),VV nm w (ss.map (λU=>U.2)) cut])) (W n' c' m)->((∀p∈ss,p∈subs (T2 t)))->ss.length<=3->cut<9->c'<=c+11->UR k m f t ns nm w n c
theorem YN(hn:nm∈nms)(hw:w<4)(hc:c<=8*10^5):UR k m f t ns nm w n c:=by
 refine ae λaA=>?_;obtain ⟨z,n1,c1,h1,l1,e1⟩:=uX (k+2) (n:=n) (c:=c) (M:=6) m (aw rfl) (aw rfl) (jz hc rfl);have hm:=UQ hn l1;have M9:=CX (M:=9) 3 hm rfl;have B:=jz (M:=900000) (HI (iU (M:=800001) e1 hc rfl) M9) rfl;obtain ⟨ss,s,a,b,x,y,hy⟩:=zI k m f t (C7 nm z) n1 c1 B;obtain ⟨cut,n2,c2,h2,l2,e2⟩:=uX (k+2) (n:=(s (C7 nm z)).1) (c:=(s (C7 nm z)).2) (M:=9) m (aw rfl) (aw rfl) (jz (bt b B) rfl);refine aA ?_;have hv:ss.map (λU=>U.2)∈Qq (C7 nm z):=FR.mpr ⟨GD (by rw [df,x];exact hm) λw hw=>by
  obtain ⟨p,hp,rfl⟩:=dy.mp hw;exact (qD t (y p hp)).c,by rw [df,x];exact lL _⟩
 have q:=ai (ai (ai (ai (ai (f87 (k) (.bytes (mem f (T2 t))) ns (λi=>st2 m (s i)) (W n c m) (W n2 c2 m) (fst ss)) hn) (rg hw)) (rg l1)) hv) (rg l2);rw [fst_eq x] at q;refine ⟨ss,cut,n2,c2,?_,y,bt (ke x) hm,l2,AU (dF e2 (dF (bt b (dV M9 c1)) e1)) rfl⟩;rw [Gx [80,86] n87 rfl];exact UO (.cons (a:=aI z (st2 m (s 0))) (by rw [a];exact h1) (hy.app (.cons (a:=aI cut _) h2 .nil))) q
end
def names1:List (List Nat):=[uW,uW,nK,nK,zy,VT]
def names2:List (List Nat):=[uW,uV,nR,nU,nK,KC,nT]
def names8:List (List Nat):=[uW,uW,nK,nK,uV,nU,nR,KC]
def Hq:List (List (List Nat)):=[names1,names2,names8]
def YO(o ns:V):Env:=[.val (.ref 0),.val o,.val ns,.own (.dict tb0),.empty,.empty,.empty,.empty,.empty,.empty,.empty,.empty,.empty,.empty,.empty,.empty,.empty,.empty,.empty,.empty,.empty,.empty,.empty,.empty]
theorem YQ(k:Nat)(o:V)(H H1 H2:Hp):Hq.map (λns=>(cc ns.length).map λd=>(cc 4).map λw=>xg (aH cF Ks.body 1 (rs [80] (k+3)) (YO o (.tup (ns.map .str))) H) [aI d H1,aI w H2])=
  Hq.map λns=>(cc ns.length).map λd=>(cc 4).map λw=>([dr (k+3) ns.length H,dr (k+3) 4 H1],.ok .next (QV o (.tup (ns.map .str)) (aH [] ns d) w) H2):=by kernel_rfl
theorem YR(k w:Nat)(o ns:V)(H:Hp):eB (br (drop' 2 Ks.body) (rn (k+3)) (QV o ns VT w) H)=.ok (.val (.tup [TI,.none])) H:=by kernel_rfl
theorem US: ∀ns∈Hq,0<ns.length/\ns.length<1000/\ ∀x∈ns,x=VT\/x∈nms:=by decide
inductive Ref(ns:List (List Nat))(t:Bool):V->V->Prop
 |ti:VT∈ns->Ref ns t TI .none
 |mk {nm:List Nat} {w cut:Nat} {ss:List (V×Nat)}:nm∈ns->nm∈nms->w<4->(∀p∈ss,p∈subs (T2 t))->ss.length<=3->cut<9->Ref ns t (rf nm (qO nm w) (ss.map (λU=>U.1)) (K0 cut)) (VV nm w (ss.map (λU=>U.2)) cut)
inductive D87(k:Nat)(m:List Nat)(f:Nat->Nat)(t:Bool)(ns:List (List Nat))(n c:Nat):Prop
 |mk (v sp:V) (n' c':Nat):rn (k+4) 87 [.ref 0,.bytes (mem f (T2 t)),.tup (ns.map .str)] (W n c m)=.ok (.val (.tup [v,sp])) (W n' c' m)->Ref ns t v sp->c'<=c+13->D87 k m f t ns n c
theorem g87(k:Nat)(m:List Nat)(f:Nat->Nat)(t:Bool)(hs:ns∈Hq)(hc:c<=7*10^5):D87 k m f t ns n c:=by
 refine ae λaA=>?_;obtain ⟨o1,o2,o3⟩:=US ns hs;obtain ⟨d,n1,c1,h1,l1,e1⟩:=uX (k+2) (n:=n) (c:=c) (M:=ns.length) m o1 o2 (jz hc rfl);obtain ⟨w,n2,c2,h2,l2,e2⟩:=uX (k+2) (n:=n1) (c:=c1) (M:=4) m (aw rfl) (aw rfl) (iU e1 hc rfl);refine aA ?_;have s0:aH cF Ks.body 0 (rn (k+3)) [.val (.ref 0),.val (.bytes (mem f (T2 t))),.val (.tup (ns.map .str)),.empty,.empty,.empty,.empty,.empty,.empty,.empty,.empty,.empty,.empty,.empty,.empty,.empty,.empty,.empty,.empty,.empty,.empty,.empty,.empty,.empty] (W n c m)=.ok .next (YO (.bytes (mem f (T2 t))) (.tup (ns.map .str))) (W n c m):=by kernel_rfl
 have s1:aH cF Ks.body 1 (rn (k+3)) (YO (.bytes (mem f (T2 t))) (.tup (ns.map .str))) (W n c m)=.ok .next (QV (.bytes (mem f (T2 t))) (.tup (ns.map .str)) (aH [] ns d) w) (W n2 c2 m):=kB (jP (k:=87) rfl _ (cb _ bj)) (.cons (a:=aI d _) h1 (.cons (a:=aI w _) h2 .nil)) (ai (ai (ai (YQ k (.bytes (mem f (T2 t))) (W n c m) (W n1 c1 m) (W n2 c2 m)) hs) (rg l1)) (rg l2))
 have st: ∀{o},eB (br (drop' 2 Ks.body) (rn (k+3)) (QV (.bytes (mem f (T2 t))) (.tup (ns.map .str)) (aH [] ns d) w) (W n2 c2 m))=o->rn (k+4) 87 [.ref 0,.bytes (mem f (T2 t)),.tup (ns.map .str)] (W n c m)=o:=λh=>(congrArg eB ((bQ s0).trans (bQ s1))).trans h;have hx:aH [] ns d∈ns:=cI _ l1;revert st hx;generalize aH [] ns d=nm;intro st hx;rcases o3 nm hx with rfl|hn
 ·exact ⟨TI,.none,n2,c2,st (YR k w _ _ _),.ti hx,AU (dF e2 e1) rfl⟩
 ·obtain ⟨ss,cut,n3,c3,h3,y,l,l3,e3⟩:=YN k m f t (.tup (ns.map .str)) hn l2 (n:=n2) (c:=c2) (iU (dF e2 e1) hc rfl);exact ⟨_,_,n3,c3,st h3,.mk hx hn l2 y l l3,AU (dF e3 (dF e2 e1)) rfl⟩
def bO(nm:List Nat):Nat:=cond (bP nm uV) 0 (cond (bP nm uW) 2 (cond (bP nm nR) 4 (cond (bP nm nT) 5 (cond (bP nm nK) 7 9))))
def ixF(nm:List Nat)(w:Nat):Nat:=cond (bP nm zy) (cond (bo w 1) 11 12) (bO nm+cond (bo w 2) 1 0)
def ixL(nm:List Nat)(w:Nat):Nat:=cond (bP nm zy) 10 (cond (bP nm KC) (cond (gp w 2) 7 (w+6)) (cond (bP nm uV) 0 (cond (bP nm uW) 1 (cond (bP nm nR) w (cond (bP nm nT) 4 (cond (bP nm nK) 5 6))))))
def fO(nm:List Nat)(w:Nat):List Nat×List V×Nat:=aH (uV,[],13) bM (ixF nm w)
def lO(nm:List Nat)(w:Nat):List Nat×List V:=aH (uV,[AW]) fQ (ixL nm w)
theorem t87:nms.map (λnm=>(cc 4).map λw=>cond (rO nm w) (gp (ixF nm w) 13,(fO nm w).1,(fO nm w).2.1) (gp (ixL nm w) 11,(lO nm w).1,(lO nm w).2))=nms.map λnm=>(cc 4).map λw=>(true,nm,qO nm w):=by kernel_rfl
theorem nS{cut:Nat}:K0 cut∈parts:=by
 match cut with
 |0=>exact .tail _ (.tail _ (.tail _ (.head _)))
 |1=>exact .tail _ (.head _)
 |2=>exact .tail _ (.tail _ (.head _))
 |_+3=>exact .head _
theorem G2(nm:List Nat)(q ss:List V)(pt:V):LH (rf nm q ss pt):=Mh (by rfl)
theorem G3(hn:nm∈nms)(hw:w<4):cond (rO nm w) (∃x∈bM,x.1=nm/\x.2.1=qO nm w) (∃x∈fQ,x.1=nm/\x.2=qO nm w):=by
 have q:=ai (ai t87 hn) (rg hw);cases hr:rO nm w with
 |true=>
  rw [hr] at q;exact ⟨fO nm w,cI _ (g0.mp (congrArg (λU=>U.1) q)),congrArg (λU=>U.2.1) q,congrArg (λU=>U.2.2) q⟩
 |false=>
  rw [hr] at q;exact ⟨lO nm w,cI _ (g0.mp (congrArg (λU=>U.1) q)),congrArg (λU=>U.2.1) q,congrArg (λU=>U.2.2) q⟩
theorem mG(hp:p∈others):LH p.1/\fK t p.1 p.2:=⟨(k8 (k:=0) (n:=0) (c:=0) (m:=[]) hp).1,λk n c m=>(k8 hp).2.1,λk n c f U=>(k8 hp).2.2⟩
theorem G4(h:Ref ns t v sp): ∃g,LH v/\fK t v g:=by
 cases h with
 |ti _=>exact ⟨true,mG (p:=(TI,true)) (by exact lh _ (.tail _ (.tail _ (.tail _ (.tail _ (.tail _ (.head _)))))))⟩
 |@mk nm w cut ss h1 hn hw hs hl hc=>
  have R:Rows (T2 t) ss:=⟨λp hp=>qD t (hs p hp),hl⟩;have F:=G3 hn hw;cases hr:rO nm w with
  |true=>
   rw [hr] at F;obtain ⟨x,hx,rfl,e⟩:=F;rw [<-e];exact ⟨_,G2 _ _ _ _,λk n c m=>nO R nS hx,λk n c f hf=>gA hf R nS hx⟩
  |false=>
   rw [hr] at F;obtain ⟨x,hx,rfl,e⟩:=F;rw [<-e];exact ⟨_,G2 _ _ _ _,λk n c m=>zC R nS hx,λk n c f hf=>qI hx _⟩
def iO(nm:List Nat)(w:Nat):Nat:=(fO nm w).2.2
def YS(nm:List Nat)(w:Nat)(ws:List Nat)(cut:Nat):Bool:=band (rO nm w) (gB (iO nm w) ws (K0 cut))
def inP(a b:Nat):Bool:=Mm.any λp=>band (bo p.1 a) (bo p.2 b)
theorem t88:names8.map (λnm=>(cc 4).map λw=>vec.map λws=>(cc 9).map λcut=>cond (YS nm w ws cut) (VV nm w ws cut,inP (off (iO nm w) ws) (jY (iO nm w)),bo (iO nm w) 36) (.none,true,false))=
  names8.map λnm=>(cc 4).map λw=>vec.map λws=>(cc 9).map λcut=>(cond (YS nm w ws cut) (CZ (off (iO nm w) ws,jY (iO nm w))) .none,true,false):=by kernel_rfl
theorem YT(h:inP a b=true):(a,b)∈Mm:=by
 obtain ⟨p,hp,e⟩:=ph.mp h;cases q:bo p.1 a with
 |false=>rw [q] at e;exact bI e
 |true=>
  rw [q] at e;have e1:=cq q;have e2:=cq (show bo p.2 b=true from e);subst e1 e2;exact hp
theorem G5(h:Ref names8 t v sp): ∃g i ws,Goal t v g i ws/\(g=true->sp=CZ (off i ws,jY i)/\(off i ws,jY i)∈Mm/\i≠36):=by
 cases h with
 |ti h=>exact absurd h (by decide)
 |@mk nm w cut ss h1 hn hw hs hl hc=>
  have R:Rows (T2 t) ss:=⟨λp hp=>qD t (hs p hp),hl⟩;have q:=ai (ai t87 hn) (rg hw);have q8:=ai (ai (ai (ai t88 h1) (rg hw)) R.vec) (rg hc);unfold YS at q8;cases hr:rO nm w with
  |true=>
   rw [hr] at q q8;have hx:fO nm w∈bM:=cI _ (g0.mp (congrArg (λU=>U.1) q));have e1:(fO nm w).1=nm:=congrArg (λU=>U.2.1) q;have e2:(fO nm w).2.1=qO nm w:=congrArg (λU=>U.2.2) q;rw [<-e2];refine ⟨gB (iO nm w) (ss.map (λU=>U.2)) (K0 cut),iO nm w,ss.map (λU=>U.2),?_,λhg=>?_⟩
   ·have G:Goal t (rf (fO nm w).1 (fO nm w).2.1 (ss.map (λU=>U.1)) (K0 cut)) (gB (iO nm w) (ss.map (λU=>U.2)) (K0 cut)) (iO nm w) (ss.map (λU=>U.2)):=⟨λk n c m=>nP R nS hx,λk n c f hf=>gA hf R nS hx,λk n c f v b hf hv=>nQ hf R nS hx hv⟩;rw [e1] at G;exact G
   ·rw [hg] at q8;exact ⟨congrArg (λU=>U.1) q8,YT (congrArg (λU=>U.2.1) q8),λe=>bI (((congrArg (λi=>bo i 36) e).symm.trans (congrArg (λU=>U.2.2) q8)).symm)⟩
  |false=>
   rw [hr] at q;have hx:lO nm w∈fQ:=cI _ (g0.mp (congrArg (λU=>U.1) q));have e1:(lO nm w).1=nm:=congrArg (λU=>U.2.1) q;have e2:(lO nm w).2=qO nm w:=congrArg (λU=>U.2.2) q;have G:Goal t (rf (lO nm w).1 (lO nm w).2 (ss.map (λU=>U.1)) (K0 cut)) false 0 []:=⟨λk n c m=>zD R nS hx,λk n c f hf=>qI hx _,λk n c f v b hf hv=>zH hx _⟩;rw [e1,e2] at G;exact ⟨false,0,[],G,λh=>nomatch h⟩
noncomputable def G6:List Nat:=[0,0,1,2,3]
def oth(i:Nat):V×Bool:=aH (TI,true) others i
def YU(k:Nat)(o:V)(H:Hp):Res:=oU [80,87] (k+5) 88 [.ref 0,o] H
def Qs(a:Nat):List (List Nat):=cond (gp a 7) names1 names2
theorem f88(k:Nat)(o v sp:V)(H H1 H2 H3:Hp):((cc 2).map λa=>(cc 90).map λd=>(cc 3).map λs=>nq (YU k o H) [aI a H1,aI d H2,aI s H3],(cc 5).map λj=>nq (YU k o H) [aI 2 H1,aI j H2],[3,4,5,6,7,8].map λa=>nq (YU k o H) [aI a H1,.ok (.val (.tup [v,sp])) H2])=
  ((cc 2).map λa=>(cc 90).map λd=>(cc 3).map λs=>([dr (k+4) 9 H,dr (k+4) 90 H1,dr (k+4) 3 H2],.ok (.val (GU (10*(d:Nat)-399) s)) H3),(cc 5).map λj=>([dr (k+4) 9 H,dr (k+4) 5 H1],.ok (.val (oth (aH 0 G6 j)).1) H2),[3,4,5,6,7,8].map λa=>([dr (k+4) 9 H,some (k+4,87,[.ref 0,o,.tup ((Qs a).map .str)],H1)],.ok (.val v) H2)):=by kernel_rfl
theorem UT(a:Nat):Qs a∈Hq:=by
 unfold Qs;cases gp a 7
 ·exact .tail _ (.head _)
 ·exact .head _
theorem Qt:(cc 5).all (λj=>gp (aH 0 G6 j) 7)=true:=by rfl
theorem in9: ∀a,a<9-> ¬a<2-> ¬a=2->a∈[3,4,5,6,7,8]:=by decide
theorem Bf:7<=others.length:=by rw [dk];exact cw 7 _
section
variable(k:Nat)(m:List Nat)(f:Nat->Nat)(t:Bool)
inductive D88(k:Nat)(m:List Nat)(f:Nat->Nat)(t:Bool)(n c:Nat):Prop
 |mk (v:V) (g:Bool) (n' c':Nat):rn (k+5) 88 [.ref 0,.bytes (mem f (T2 t))] (W n c m)=.ok (.val v) (W n' c' m)->(LH v/\fK t v g)->c'<=c+14->D88 k m f t n c
theorem g88(hc:c<=6*10^5):D88 k m f t n c:=by
 refine ae λaA=>?_;obtain ⟨a,n1,c1,h1,l1,e1⟩:=uX (k+3) (n:=n) (c:=c) (M:=9) m (aw rfl) (aw rfl) (jz hc rfl);refine aA ?_;have q:=λv sp H2 H3=>f88 k (.bytes (mem f (T2 t))) v sp (W n c m) (W n1 c1 m) H2 H3;by_cases h2:a<2
 ·obtain ⟨d,n2,c2,h3,l3,e3⟩:=uX (k+3) (n:=n1) (c:=c1) (M:=90) m (aw rfl) (aw rfl) (iU e1 hc rfl);refine ae λb8=>?_;obtain ⟨s,n3,c3,h4,l4,e4⟩:=uX (k+3) (n:=n2) (c:=c2) (M:=3) m (aw rfl) (aw rfl) (iU (dF e3 e1) hc rfl);refine b8 ?_;have q:=congrArg (λU=>U.1) (q .none .none (W n2 c2 m) (W n3 c3 m));dsimp only at q;have q:=ai (ai (ai q (rg h2)) (rg l3)) (rg l4);exact ⟨_,true,n3,c3,go [80,87] ((bL (.cons (a:=aI a _) h1 (.cons (a:=aI d _) h3 (.cons (a:=aI s _) h4 .nil))) _ (congrArg (λU=>U.1) q)).trans (ok (congrArg (λU=>U.2) q))),mG (Qi l3 l4),AU (dF e4 (dF e3 e1)) rfl⟩
 ·by_cases h2':a=2
  ·subst h2';refine ae λjT=>?_;obtain ⟨j,n2,c2,h3,l3,e3⟩:=uX (k+3) (n:=n1) (c:=c1) (M:=5) m (aw rfl) (aw rfl) (iU e1 hc rfl);refine jT ?_;have q:=congrArg (λU=>U.2.1) (q .none .none (W n2 c2 m) []);dsimp only at q;have q:=ai q (rg l3);exact ⟨_,(oth (aH 0 G6 j)).2,n2,c2,go [80,87] ((bL (.cons (a:=aI 2 _) h1 (.cons (a:=aI j _) h3 .nil)) _ (congrArg (λU=>U.1) q)).trans (ok (congrArg (λU=>U.2) q))),mG (cI _ (ey (g0.mp (uT Qt (rg l3))) Bf)),AU (dF e3 e1) rfl⟩
  ·obtain ⟨v,sp,n2,c2,h3,R,e3⟩:=g87 k m f t (UT a) (n:=n1) (c:=c1) (iU e1 hc rfl);have ha:=in9 a l1 h2 h2';have q:=congrArg (λU=>U.2.2) (q v sp (W n2 c2 m) []);dsimp only at q;have q:=ai q ha;obtain ⟨g,L⟩:=G4 R;exact ⟨v,g,n2,c2,go [80,87] ((bL (.cons (a:=aI a _) h1 (.cons (a:=.ok (.val (.tup [v,sp])) _) h3 .nil)) _ (congrArg (λU=>U.1) q)).trans (ok (congrArg (λU=>U.2) q))),L,AU (dF e3 e1) rfl⟩
end
structure Lf where
 v:V
 g:Bool
 a:Hp
 b:Hp
noncomputable def lists:Nat->List (List Nat)
 |0=>[[]]
 |n+1=>(cc 5).flatMap λw=>(lists n).map (λU=>w::U)
noncomputable def tl(F:Nat->Lf)(i:Nat):Lf:=F (i+1)
def nx(w:Nat)(T L:Tr):Tr:=cond (bo w 4) (.neg T) (cond (gp w 3) (.bin (aH [] ops w) T L) (.bin [45] L T))
noncomputable def tr:List Nat->(Nat->Lf)->Tr->Tr
 |[],_,T=>T
 |w::l,F,T=>tr l (tl F) (nx w T (.leaf (F 0).v (F 0).g))
noncomputable def VW:List Nat->(Nat->Lf)->List mO
 |[],_=>[]
 |w::l,F=>aI w (F 0).a::cond (bo w 4) (VW l (tl F)) (.ok (.val (F 0).v) (F 0).b::VW l (tl F))
noncomputable def VX(k:Nat)(o:V):List Nat->(Nat->Lf)->Hp->List Qn
 |[],_,_=>[]
 |w::l,F,H=>dr k 5 H::cond (bo w 4) (VX k o l (tl F) (F 0).a) (some (k,88,[.ref 0,o],(F 0).a)::VX k o l (tl F) (F 0).b)
noncomputable def UU:List Nat->(Nat->Lf)->Hp->Hp
 |[],_,H=>H
 |w::l,F,_=>UU l (tl F) (cond (bo w 4) (F 0).a (F 0).b)
theorem f89(k:Nat)(o v:V)(g:Bool)(H H1 H2:Hp)(F:Nat->Lf):(cc 4).map (λd=>(lists d).map λl=>nq (oU [80,88] (k+6) 89 [.ref 0,o] H) (.ok (.val v) H1::aI d H2::VW l F))=
  (cc 4).map λd=>(lists d).map λl=>(some (k+5,88,[.ref 0,o],H)::dr (k+5) 4 H1::VX (k+5) o l F H2,.ok (.val (tr l F (.leaf v g)).v) (UU l F H2)):=by kernel_rfl
noncomputable def sm(T:Tr):Bool:=eh T.dp 3&&eh T.nl 4&&eh T.size 100&&eh T.d2 6&&eh T.code.length 8&&eh T.ps 100
theorem YV(v:V)(g:Bool)(F:Nat->Lf):(cc 4).map (λd=>(lists d).map λl=>sm (tr l F (.leaf v g)))=(cc 4).map λd=>(lists d).map λU=>true:=by kernel_rfl
theorem xm{T:Tr}(h:sm T=true):Small T:=by
 unfold sm at h;simp only [Bool.and_eq_true,Nat.ble_eq] at h;exact ⟨h.1.1.1.1.1,h.1.1.1.1.2,h.1.1.1.2,h.1.1.2,h.1.2,h.2⟩
def Qu(t:Bool)(x:Lf):Prop:=LH x.v/\fK t x.v x.g
section
variable{t:Bool}
theorem Qv{T L:Tr}(w:Nat)(h:T.All P)(hL:L.All P):(nx w T L).All P:=by
 unfold nx;cases bo w 4
 ·cases q:gp w 3
  ·exact ⟨.tail _ (.head _),hL,h⟩
  ·exact ⟨cI _ (g0.mp q),h,hL⟩
 ·exact h
theorem G7: ∀(l:List Nat) {F:Nat->Lf} {T:Tr},(∀i,Qu t (F i))->T.All (fK t)->(tr l F T).All (fK t)
 |[],_,_,_,h=>h
 |w::l,_,_,hF,h=>G7 l (λi=>hF (i+1)) (Qv w h (hF 0))
noncomputable def cs(x:Lf)(F:Nat->Lf):Nat->Lf
 |0=>x
 |i+1=>F i
inductive R89(k:Nat)(m:List Nat)(f:Nat->Nat)(t:Bool)(d n c:Nat):Prop
 |mk (l:List Nat) (F:Nat->Lf) (n' c':Nat):l∈lists d->Hy (VX (k+5) (.bytes (mem f (T2 t))) l F (W n c m)) (VW l F)->UU l F (W n c m)=W n' c' m->((∀i,Qu t (F i)))->c'<=c+15*d->R89 k m f t d n c
theorem r89(k:Nat)(m:List Nat)(f:Nat->Nat)(hx:Qu t x)(d:Nat): ∀{n c:Nat},c+15*d<=5*10^5->R89 k m f t d n c:=by
 induction d with
 |zero=>exact λ{n c} _=>⟨[],λU=>x,n,c,.head _,.nil,rfl,λU=>hx,eb _⟩
 |succ d ih=>
  intro n c hc;have hc':=bt (cw _ _) hc;obtain ⟨w,n1,c1,h1,l1,e1⟩:=uX (k+4) (n:=n) (c:=c) (M:=5) m (aw rfl) (aw rfl) (jz hc' rfl);cases hw:bo w 4 with
  |true=>
   obtain ⟨l,F,n',c',i1,i2,i3,i4,i5⟩:=ih (n:=n1) (c:=c1) (QM (r:=15*d) (i:=15) (AU e1 rfl) hc);have i5:=dF i5 (AU (k:=15) e1 rfl);refine ⟨w::l,cs ⟨x.v,x.g,W n1 c1 m,W n1 c1 m⟩ F,n',c',ka.mpr ⟨w,rg l1,dy.mpr ⟨l,i1,rfl⟩⟩,?_,?_,λi=>?_,i5⟩
   ·show Hy (dr _ 5 _::cond (bo w 4) _ _) (aI w _::cond (bo w 4) _ _);rw [hw];exact .cons h1 i2
   ·show UU l _ (cond (bo w 4) _ _)=_;rw [hw];exact i3
   ·cases i with
    |zero=>exact hx
    |succ i=>exact i4 i
  |false=>
   obtain ⟨v,g,n2,c2,h2,L,e2⟩:=g88 k m f t (n:=n1) (c:=c1) (iU e1 hc' rfl);obtain ⟨l,F,n',c',i1,i2,i3,i4,i5⟩:=ih (n:=n2) (c:=c2) (QM (r:=15*d) (i:=15) (dF e2 e1) hc);refine ⟨w::l,cs ⟨v,g,W n1 c1 m,W n2 c2 m⟩ F,n',c',ka.mpr ⟨w,rg l1,dy.mpr ⟨l,i1,rfl⟩⟩,?_,?_,λi=>?_,(dF i5 (AU (k:=15) (dF e2 e1) rfl))⟩
   ·show Hy (dr _ 5 _::cond (bo w 4) _ _) (aI w _::cond (bo w 4) _ _);rw [hw];exact .cons h1 (.cons (a:=.ok (.val v) _) h2 i2)
   ·show UU l _ (cond (bo w 4) _ _)=_;rw [hw];exact i3
   ·cases i with
    |zero=>exact L
    |succ i=>exact i4 i
inductive D89(k:Nat)(m:List Nat)(f:Nat->Nat)(t:Bool)(n c:Nat):Prop
 |mk (T:Tr) (n' c':Nat):rn (k+6) 89 [.ref 0,.bytes (mem f (T2 t))] (W n c m)=.ok (.val T.v) (W n' c' m)->T.All (fK t)->Small T->c'<=c+60->D89 k m f t n c
theorem g89(k:Nat)(m:List Nat)(f:Nat->Nat)(hc:c<=4*10^5):D89 k m f t n c:=by
 refine ae λaA=>?_;obtain ⟨v,g,n1,c1,h1,L,e1⟩:=g88 k m f t (n:=n) (c:=c) (jz hc rfl);obtain ⟨d,n2,c2,h2,l2,e2⟩:=uX (k+4) (n:=n1) (c:=c1) (M:=4) m (aw rfl) (aw rfl) (iU e1 hc rfl);have M45:=CX (M:=45) 15 (og l2) rfl;obtain ⟨l,F,n',c',i1,i2,i3,i4,i5⟩:=r89 k m f (x:=⟨v,g,[],[]⟩) L d (n:=n2) (c:=c2) (jz (HI (iU (M:=400015) (dF e2 e1) hc rfl) M45) rfl);refine aA ?_;have q:=ai (ai (f89 k (.bytes (mem f (T2 t))) v g (W n c m) (W n1 c1 m) (W n2 c2 m) F) (rg l2)) i1;rw [i3] at q;exact ⟨tr l F (.leaf v g),n',c',go [80,88] ((bL (.cons (a:=.ok (.val v) _) h1 (.cons (a:=aI d _) h2 i2)) _ (congrArg (λU=>U.1) q)).trans (ok (congrArg (λU=>U.2) q))),G7 l i4 L,xm (ai (ai (YV v g F) (rg l2)) i1),AU (dF (bt i5 (dV M45 c2)) (dF e2 e1)) rfl⟩
end
theorem gm(hx:x∈bM)(R:Rows (T2 t) ss):(LH (rf x.1 x.2.1 (ss.map (λU=>U.1)) .none)/\fK t (rf x.1 x.2.1 (ss.map (λU=>U.1)) .none) (gB x.2.2 (ss.map (λU=>U.2)) .none))/\Goal t (rf x.1 x.2.1 (ss.map (λU=>U.1)) .none) (gB x.2.2 (ss.map (λU=>U.2)) .none) x.2.2 (ss.map (λU=>U.2)):=
 have p:=nS (cut:=3)
 ⟨⟨G2 _ _ _ _,λU U U U=>nO R p hx,λU U U U hf=>gA hf R p hx⟩,λU U U U=>nP R p hx,λU U U U hf=>gA hf R p hx,λU U U U U U hf hv=>nQ hf R p hx hv⟩
structure Wr where
 T:Tr
 r:V
 p:Nat×Nat
 b:Bool
 o:List Nat
def YW(t:Bool)(x:Wr):Prop:= ∀k (n c:Int) f m,iV f-> ∃m',rn (k+29) 90 [.ref 48,.bytes (mem f (T2 t)),x.T.v,.tup [.tup [x.r,.bool true,.str x.o]],.list [CZ x.p]] (W n c (bB 29 m))=.ok (.val (.bool x.b)) (W n c (bB 29 m'))
theorem Qw(h:x.T.All (fK t))(G:Goal t x.r g i ws)(hs:sm x.T=true)(ho:x.o∈ways)(hb:band x.T.good g=x.b)(hp:g=true->x.p=(off i ws,jY i)/\[x.p]∈SP):YW t x:=λk n c f m hf=>by
 obtain ⟨m',e⟩:=YL (k:=k) (n:=n) (c:=c) (f:=f) (t:=t) ⟨⟨x.r,true,x.o,g⟩,i,ws,ho,G⟩ .none (λz h=>bw h) hf h (xm hs) (m:=m) (sp:=.list [CZ x.p]) (λhg=>by
  cases g with
  |false=>exact bI hg
  |true=>
   obtain ⟨e,h⟩:=hp rfl;show V.list [CZ x.p]=.list [CZ (off i ws,jY i)]/\[(off i ws,jY i)]∈SP;rw [<-e];exact ⟨rfl,h⟩)
 have e2:band x.T.good (mF (t:=t) ⟨⟨x.r,true,x.o,g⟩,i,ws,ho,G⟩ .none)=x.b:=by
  rw [<-hb];cases g<;>rfl
 rw [e2] at e;exact ⟨m',e⟩
def jQ:V:=rf uW [] [] .none
def G8:V:=rf uV [] [] .none
def zJ:V:=rf nK [] [nb 1] .none
def VY:Tr:=.leaf jQ true
def wr:List Wr:=[⟨.bin [43] VY (.leaf TI true),jQ,(7,4),true,[61]⟩,⟨.leaf UL false,jQ,(7,4),false,[43]⟩,⟨VY,G8,(3,4),false,[61]⟩,⟨.bin [42] (.leaf told true) (.leaf (GU 25 1) true),zJ,(15,2),true,[43]⟩,⟨.bin [43] VY (.leaf G8 false),zJ,(15,2),false,[61]⟩,⟨.neg (.leaf GW true),told,(27,1),true,[43]⟩,⟨VY,rf nR [] [] .none,(0,27),false,[61]⟩]
theorem UW(t:Bool): ∀x∈wr,YW t x:=by
 have R0:Rows (T2 t) []:=⟨λU h=>(nomatch h),v3 _⟩;have R1:Rows (T2 t) [(nb 1,1)]:=⟨λp hp=>by rw [dC.mp hp];exact qD t (.head _),by decide⟩;have o: ∀i,i<7->LH (aH (TI,true) others i).1/\fK t (aH (TI,true) others i).1 (aH (TI,true) others i).2:=λi h=>mG (cI _ (ey h Bf));obtain ⟨nL,nG⟩:=gm (t:=t) (x:=(uW,[],16)) (.tail _ (.tail _ (.head _))) R0;obtain ⟨aL,aG⟩:=gm (t:=t) (x:=(uV,[],13)) (.head _) R0;have kG:=(gm (t:=t) (x:=(nK,[],26)) (cI (uW,[],16) (l:=bM) (i:=7) (aw rfl)) R1).2;obtain ⟨tL,tG⟩:=gm (t:=t) (x:=(zy,[AW],36)) (cI (uW,[],16) (l:=bM) (i:=12) (aw rfl)) R0;have rG:=(gm (t:=t) (x:=(nR,[],7)) (cI (uW,[],16) (l:=bM) (i:=4) (aw rfl)) R0).2;intro x hx;rcases de.mp hx with rfl|hx
 ·exact Qw ⟨.head _,nL,o 5 (aw rfl)⟩ nG rfl (.head _) rfl λU=>⟨rfl,by decide⟩
 rcases de.mp hx with rfl|hx
 ·exact Qw (o 4 (aw rfl)) nG rfl (.tail _ (.head _)) rfl λU=>⟨rfl,by decide⟩
 rcases de.mp hx with rfl|hx
 ·exact Qw nL aG rfl (.head _) rfl λh=>bI h
 rcases de.mp hx with rfl|hx
 ·exact Qw ⟨.tail _ (.tail _ (.head _)),tL,o 6 (aw rfl)⟩ kG rfl (.tail _ (.head _)) rfl λU=>⟨rfl,by decide⟩
 rcases de.mp hx with rfl|hx
 ·exact Qw ⟨.head _,nL,aL⟩ kG rfl (.head _) rfl λU=>⟨rfl,by decide⟩
 rcases de.mp hx with rfl|hx
 ·exact Qw (x:=⟨.neg (.leaf GW true),told,(27,1),true,[43]⟩) (o 0 (aw rfl)) tG rfl (.tail _ (.head _)) rfl λU=>⟨rfl,by decide⟩
 rcases de.mp hx with rfl|hx
 ·exact Qw nL rG rfl (.head _) rfl λh=>bI h
 exact absurd hx eP
noncomputable def q90(k:Nat)(o:V)(T r p:V)(H:Hp):Qn:=some (k,90,[.ref 48,o,T,r,p],H)
noncomputable def YX(k:Nat)(o:V):List Wr->(Nat->Hp)->Hp->List Qn
 |[],_,_=>[]
 |x::l,F,H=>q90 k o x.T.v (.tup [.tup [x.r,.bool true,.str x.o]]) (.list [CZ x.p]) H::YX k o l (λi=>F (i+1)) (F 0)
noncomputable def YY:List Wr->(Nat->Hp)->List mO
 |[],_=>[]
 |x::l,F=>.ok (.val (.bool x.b)) (F 0)::YY l λi=>F (i+1)
noncomputable def YZ:List Wr->(Nat->Hp)->Hp->Hp
 |[],_,H=>H
 |_::l,F,_=>YZ l (λi=>F (i+1)) (F 0)
noncomputable def csH(x:Hp)(F:Nat->Hp):Nat->Hp
 |0=>x
 |i+1=>F i
theorem G9(k:Nat)(n c:Int)(hf:iV f)(l:List Wr): ∀m:Nat->Nat,(∀x∈l,YW t x)-> ∃F m',Hy (YX (k+29) (.bytes (mem f (T2 t))) l F (W n c (bB 29 m))) (YY l F)/\YZ l F (W n c (bB 29 m))=W n c (bB 29 m'):=by
 induction l with
 |nil=>exact λm U=>⟨λU=>[],m,.nil,rfl⟩
 |cons x l ih=>
  intro m h;obtain ⟨m1,e⟩:=h x bj k n c f m hf;obtain ⟨F,m',e1,e2⟩:=ih m1 λy hy=>h y (cb _ hy);exact ⟨csH (W n c (bB 29 m1)) F,m',.cons (a:=.ok (.val (.bool x.b)) _) e e1,e2⟩
def VZ(sc o:V)(w9 Vn a11 a12 a13 a14 a15 a16 a17 a18:Slot):Env:=[.val sc,.val (.ref 0),.val (.ref 48),.val o,.val G8,.val jQ,.val zJ,.val told,.val TI,w9,Vn,a11,a12,a13,a14,a15,a16,a17,a18,.empty,.empty,.empty,.empty,.empty,.empty,.empty,.empty,.empty,.empty,.empty]
def wrV(x:Wr):V:=.tup [x.T.v,x.r,CZ x.p,.bool x.b]
noncomputable def i91(sc:V):Env:=[.val sc,.empty,.empty,.empty,.empty,.empty,.empty,.empty,.empty,.empty,.empty,.empty,.empty,.empty,.empty,.empty,.empty,.empty,.empty,.empty,.empty,.empty,.empty,.empty,.empty,.empty,.empty,.empty,.empty,.empty]
def V0(sc o:V):Env:=VZ sc o (.val (.list (wr.map wrV))) (.val (.int 6)) (.val jQ) (.val (rf nR [] [] .none)) (.val (CZ (0,27))) (.val (.bool false)) .empty .empty .empty .empty
theorem Y0(k:Nat)(sc o:V)(H1 H2 H3:Hp)(F:Nat->Hp):xg (br (take' 8 QJ.body) (rs [79,83,84,90] (k+1)) (i91 sc) []) (.ok (.val (.ref 0)) H1:: .ok (.val (.ref 48)) H2:: .ok (.val o) H3::YY wr F)=
  (some (k+1,79,[sc],[])::some (k+1,83,[],H1)::some (k+1,84,[.ref 0],H2)::YX (k+1) o wr F H3,.ok .next (V0 sc o) (YZ wr F H3)):=by kernel_rfl
structure Rv where
 v:V
 s:V
 a:Hp
 b:Hp
 c:Hp
noncomputable def pairs:List (Nat×Nat):=(cc 2).flatMap λb=>(cc 5).map λo=>(b,o)
noncomputable def rl:Nat->List (List (Nat×Nat))
 |0=>[[]]
 |n+1=>pairs.flatMap λp=>(rl n).map (λU=>p::U)
noncomputable def UX(F:Nat->Rv)(i:Nat):Rv:=F (i+1)
noncomputable def csR(x:Rv)(F:Nat->Rv):Nat->Rv
 |0=>x
 |i+1=>F i
noncomputable def Y3:List (Nat×Nat)->(Nat->Rv)->List mO->List mO
 |[],_,r=>r
 |p::l,F,r=>.ok (.val (.tup [(F 0).v,(F 0).s])) (F 0).a::aI p.1 (F 0).b::aI p.2 (F 0).c::Y3 l (UX F) r
noncomputable def Y4(k:Nat)(o:V):List (Nat×Nat)->(Nat->Rv)->Hp->List Qn->List Qn
 |[],_,_,r=>r
 |_::l,F,H,r=>some (k,87,[.ref 0,o,.tup (names8.map .str)],H)::dr k 2 (F 0).a::dr k 5 (F 0).b::Y4 k o l (UX F) (F 0).c r
noncomputable def Y5:List (Nat×Nat)->(Nat->Rv)->Hp->Hp
 |[],_,H=>H
 |_::l,F,_=>Y5 l (UX F) (F 0).c
noncomputable def UY:List (Nat×Nat)->(Nat->Rv)->List V
 |[],_=>[]
 |p::l,F=>.tup [(F 0).v,.bool (bo p.1 1),.str (aH [] ways p.2)]::UY l (UX F)
noncomputable def UZ:List (Nat×Nat)->(Nat->Rv)->List V
 |[],_=>[]
 |_::l,F=>(F 0).s::UZ l (UX F)
def QW:List fF:=[(bG [(aj 11),(aj 16),(aj 17)] [(ao 89 [(aa 1),(aa 3)]),(eList []),(eList [])]),(dY (aj 18) (bU (ak 0) (aE .add (ak 1) (ao 80 [(aa 1),(ak 2)]))) [(af (dX [(aj 12),(aj 13)]) (ao 87 [(aa 1),(aa 3),(aD [(aq [78,85]),(aq [78,85]),(aq [75]),(aq [75]),(aq [65,78]),(aq [85]),(aq [82]),(aq [78,79])])])),(bJ (bN (aa 16) (aD [(aa 12),(bT (ay .eq (ao 80 [(aa 1),(ak 2)]) (ak 1))),(aK (aq [61,43,45,42,47]) (ao 80 [(aa 1),(ak 5)]))]))),(bJ (bN (aa 17) (aa 13)))]),(b7 (ay .is (ao 90 [(aa 2),(aa 3),(aa 11),(kH (aa 16)),(aa 17)]) bF) [(ah (cu false))] [])]
theorem n91(v:V):Nt (dW (aj 15) v (br QW)):=uR (jy _) (iT ((show (Hu 91 8).m=QW by kernel_rfl)▸(Hu 91 8).nt))
theorem Y6(k:Nat)(sc o i v10 v11 U0 U1 Hf U3 U4 U5 T:V)(w9:Slot)(U6:List V)(H H1 H2 H3:Hp)(F:Nat->Rv)(r:Bool):bools.map (λs=>(cc 2).map λd=>(rl (d+1)).map λl=>
   xg (dW (aj 15) i (br QW) (rs [80,87,89,90] k) (VZ sc o w9 (.val v10) (.val v11) (.val U0) (.val U1) (.val Hf) (sv s U3) (cond s (.own (.list U6)) .empty) (sv s U4) (sv s U5)) H) (.ok (.val T) H1::aI d H2::Y3 l F [.ok (.val (.bool r)) H3]))=
  bools.map λU=>(cc 2).map λd=>(rl (d+1)).map λl=>
   (some (k,89,[.ref 0,o],H)::dr k 2 H1::Y4 k o l F H2 [q90 k o T (.tup (UY l F)) (.list (UZ l F)) (Y5 l F H2)],.ok .next (VZ sc o w9 (.val v10) (.val T) (.val (F d).v) (.val (F d).s) (.val Hf) (.val i) (.own (.list (UY l F))) (.val (.list (UZ l F))) (.val (.int d))) H3):=by kernel_rfl
end PL
end MP
end Mine.Lake
end
section
namespace Mine.Lake
namespace MP
namespace PL
open PySem
section
variable{t:Bool}
theorem Bg(h:Ref names8 t v s)(hp:p∈pairs): ∃x:k9 t,x.v=.tup [v,.bool (bo p.1 1),.str (aH [] ways p.2)]/\x.i≠36/\(x.g=true->s=CZ (off x.i x.ws,jY x.i)/\(off x.i x.ws,jY x.i)∈Mm):=by
 have hw:aH [] ways p.2∈ways:=by
  obtain ⟨b,_,hb⟩:=ka.mp hp;obtain ⟨o,ho,rfl⟩:=dy.mp hb;exact cI _ (rp.mp ho)
 refine ae λaA=>?_;obtain ⟨g,i,ws,G,hg⟩:=G5 h;refine aA ?_;cases g with
 |false=>exact ⟨⟨⟨v,_,_,false⟩,0,[],hw,⟨G.p,G.v,G.s⟩⟩,rfl,(by decide:(0:Nat)≠36),λe=>bI e⟩
 |true=>exact ⟨⟨⟨v,_,_,true⟩,i,ws,hw,G⟩,rfl,(hg rfl).2.2,λU=>⟨(hg rfl).1,(hg rfl).2.1⟩⟩
theorem Mr(ha:a∈Mm)(hl:l=[a]\/ ∃b∈Mm,l=[a,b]):l∈SP:=by
 refine ka.mpr ⟨a,ha,?_⟩;rcases hl with rfl|⟨b,hb,rfl⟩
 ·exact .head _
 ·exact .tail _ (dy.mpr ⟨b,hb,rfl⟩)
theorem t90{k n c:Nat}(hf:iV f){T:Tr}(hT:T.All (fK t))(S:Small T)(hd:d<2)(hl:l∈rl (d+1))(hF: ∀i,i<d+1->Ref names8 t (F i).v (F i).s): ∃r m',rn (k+29) 90 [.ref 48,.bytes (mem f (T2 t)),T.v,.tup (UY l F),.list (UZ l F)] (W n c (bB 29 m))=.ok (.val (.bool r)) (W n c (bB 29 m')):=by
 obtain ⟨p,hp,h⟩:=ka.mp hl;obtain ⟨l,h2,rfl⟩:=dy.mp h;clear hl h;obtain ⟨x,e1,e2,e3⟩:=Bg (hF 0 (mf d)) hp
 match d,hd with
 |0,_=>
  cases dC.mp h2;obtain ⟨m',e⟩:=YL (k:=k) (n:=n) (c:=c) x .none (λz h=>bw h) hf hT S (m:=m) (sp:=.list [(F 0).s]) λhg=>by
   have hg:x.g=true:=by
    cases q:x.g with
    |true=>rfl
    |false=>
     unfold mF at hg;rw [q] at hg;exact bI hg
   obtain ⟨e,h⟩:=e3 hg;rw [e];exact ⟨rfl,Mr h (.inl rfl)⟩
  unfold jC at e;rw [e1] at e;exact ⟨_,m',e⟩
 |1,_=>
  obtain ⟨p',WZ,h⟩:=ka.mp h2;obtain ⟨l',h3,rfl⟩:=dy.mp h;cases dC.mp h3;obtain ⟨y,i1,i2,i3⟩:=Bg (hF 1 (km 1)) WZ;obtain ⟨m',e⟩:=YL (k:=k) (n:=n) (c:=c) x (some y) (λz U=>e2) hf hT S (m:=m) (sp:=.list [(F 0).s,(F 1).s]) λhg=>by
   have hg:x.g=true/\y.g=true:=by
    unfold mF at hg;cases q:x.g with
    |true=>
     rw [q] at hg;exact ⟨rfl,hg⟩
    |false=>rw [q] at hg;exact bI hg
   obtain ⟨e,h⟩:=e3 hg.1;obtain ⟨i,h'⟩:=i3 hg.2;rw [e,i];exact ⟨rfl,Mr h (.inr ⟨_,h',rfl⟩)⟩
  unfold jC at e;rw [e1,show (some y).elim [] (λy=>[y.v])=[y.v] from rfl,i1] at e;exact ⟨_,m',e⟩
inductive R91(k:Nat)(m:List Nat)(f:Nat->Nat)(t:Bool)(d n c:Nat):Prop
 |mk (l:List (Nat×Nat)) (F:Nat->Rv) (n' c':Nat):l∈rl d->((∀{q as},Hy q as->Hy (Y4 (k+4) (.bytes (mem f (T2 t))) l F (W n c m) q) (Y3 l F as)))->Y5 l F (W n c m)=W n' c' m->((∀i,i<d->Ref names8 t (F i).v (F i).s))->c'<=c+15*d->R91 k m f t d n c
theorem r91(k:Nat)(m:List Nat)(f:Nat->Nat)(d:Nat): ∀{n c:Nat},c+15*d<=3*10^5->R91 k m f t d n c:=by
 induction d with
 |zero=>exact λ{n c} _=>⟨[],λU=>⟨.none,.none,[],[],[]⟩,n,c,.head _,λh=>h,rfl,λU h=>absurd h (xa _),eb _⟩
 |succ d ih=>
  intro n c hc;have hc':=bt (cw _ _) hc;obtain ⟨v,s,n1,c1,h1,R,e1⟩:=g87 k m f t (ns:=names8) (.tail _ (.tail _ (.head _))) (n:=n) (c:=c) (jz hc' rfl);obtain ⟨b,n2,c2,h2,l2,e2⟩:=uX (k+3) (n:=n1) (c:=c1) (M:=2) m (aw rfl) (aw rfl) (iU e1 hc' rfl);obtain ⟨o,n3,c3,h3,l3,e3⟩:=uX (k+3) (n:=n2) (c:=c2) (M:=5) m (aw rfl) (aw rfl) (iU (dF e2 e1) hc' rfl);have e4:=dF e3 (dF e2 e1);obtain ⟨l,F,n',c',i1,i2,i3,i4,i5⟩:=ih (n:=n3) (c:=c3) (QM (r:=15*d) (i:=15) e4 hc);refine ⟨(b,o)::l,csR ⟨v,s,W n1 c1 m,W n2 c2 m,W n3 c3 m⟩ F,n',c',ka.mpr ⟨(b,o),ka.mpr ⟨b,rg l2,dy.mpr ⟨o,rg l3,rfl⟩⟩,dy.mpr ⟨l,i1,rfl⟩⟩,λh=>.cons (a:=.ok (.val (.tup [v,s])) _) h1 (.cons (a:=aI b _) h2 (.cons (a:=aI o _) h3 (i2 h))),i3,λi hi=>?_,(dF i5 e4)⟩;cases i with
  |zero=>exact R
  |succ i=>exact i4 i (ui hi)
inductive U7(sc o:V)(w9:Slot)(v10 Hf:V)(s:Bool):Env->Prop
 |mk (v11 U0 U1 U3 U4 U5:V) (U6:List V):U7 sc o w9 v10 Hf s (VZ sc o w9 (.val v10) (.val v11) (.val U0) (.val U1) (.val Hf) (sv s U3) (cond s (.own (.list U6)) .empty) (sv s U4) (sv s U5))
section
variable{k:Nat}{f:Nat->Nat}(hf:iV f){sc v10 Hf:V}{w9:Slot}
include hf
theorem Y7(i:V)(E:U7 sc (.bytes (mem f (T2 t))) w9 v10 Hf s ρ){n c:Nat}(hc:c<=2*10^5): ∃(ρ':Env) (n' c':Nat) (m':Nat->Nat),dW (aj 15) i (br QW) (rn (k+29)) ρ (W n c (bB 29 m))=.ok .next ρ' (W n' c' (bB 29 m'))/\U7 sc (.bytes (mem f (T2 t))) w9 v10 Hf true ρ'/\c'<=c+100:=by
 refine ae λaA=>?_;cases E with|mk v11 U0 U1 U3 U4 U5 U6=>
 obtain ⟨T,n1,c1,h1,hT,S,e1⟩:=g89 (t:=t) (k+23) (bB 29 m) f (n:=n) (c:=c) (jz hc rfl);obtain ⟨d,n2,c2,h2,l2,e2⟩:=uX (k+28) (n:=n1) (c:=c1) (M:=2) (bB 29 m) (aw rfl) (aw rfl) (iU e1 hc rfl);have M30:=CX (M:=30) 15 l2 rfl;obtain ⟨l,F,n',c',i1,i2,i3,i4,i5⟩:=r91 (t:=t) (k+25) (bB 29 m) f (d+1) (n:=n2) (c:=c2) (jz (HI (iU (M:=200061) (dF e2 e1) hc rfl) M30) rfl);obtain ⟨r,m',h3⟩:=t90 (k:=k) (n:=n') (c:=c') (m:=m) hf hT S l2 i1 i4;refine aA ?_;have q:=ai (ai (ai (Y6 (k+29) sc (.bytes (mem f (T2 t))) i v10 v11 U0 U1 Hf U3 U4 U5 T.v w9 U6 (W n c (bB 29 m)) (W n1 c1 (bB 29 m)) (W n2 c2 (bB 29 m)) (W n' c' (bB 29 m')) F r) (jA s)) (rg l2)) i1;rw [i3] at q;exact ⟨_,n',c',m',kB (n91 i) (.cons (a:=.ok (.val T.v) _) h1 (.cons (a:=aI d _) h2 (i2 (.cons (a:=.ok (.val (.bool r)) _) h3 .nil)))) q,.mk T.v (F d).v (F d).s i (.list (UZ l F)) (.int d) (UY l F),AU (dF (bt i5 (dV M30 c2)) (dF e2 e1)) rfl⟩
theorem l91(N:Nat)(l:List V)(d:Nat): ∀(p:Nat) {s:Bool} {ρ:Env} {n c:Nat} {m:Nat->Nat},p+d=l.length->U7 sc (.bytes (mem f (T2 t))) w9 v10 Hf s ρ->c+100*d<=2*10^5-> ∃ρ' H',forLoop (N+d+1) p (aj 15) (.vals l) (br QW) (rn (k+29)) ρ (W n c (bB 29 m))=.ok .next ρ' H':=by
 induction d with
 |zero=>exact λp s ρ n c m h E U=>⟨_,_,mD (jk (ke h.symm))⟩
 |succ d ih=>
  intro p s ρ n c m h E hc;obtain ⟨v,hv⟩:=lM (l:=l) (i:=p) (h▸kl (mf d));obtain ⟨CW,n1,c1,m1,e1,E1,h1⟩:=Y7 (k:=k) hf v E (n:=n) (c:=c) (m:=m) (bt (cw _ _) hc);obtain ⟨ρ',H',e2⟩:=ih (p+1) (n:=n1) (c:=c1) (m:=m1) ((sb p d).trans h) E1 (QM (r:=100*d) (i:=100) h1 hc);exact ⟨ρ',H',oV hv e1 e2⟩
end
end
noncomputable def U8:Out Flow->Bool
 | .ok .next _ _=>true
 |_=>false
theorem Hg: ∀(n:Nat) {cf:CF} {ρ ρ':Env} {H H':Hp},br (take' n s) cf ρ H=.ok .next ρ' H'->br s cf ρ H=br (drop' n s) cf ρ' H':=by
 induction s with
 |nil=>intro n cf ρ ρ' H H' h;cases n<;>(cases h;rfl)
 |cons a s ih=>
  intro n cf ρ ρ' H H' h;cases n with
  |zero=>cases h;rfl
  |succ n=>
   show (a cf ρ H).bind _=_;have h:(a cf ρ H).bind _=_:=h;revert h;cases a cf ρ H with
   |ok fl CW H1=>
    cases fl with
    |next=>exact λh=>ih n h
    |_=>exact λh=>bI (congrArg U8 h)
   |_=>exact λh=>bI (congrArg U8 h)
theorem K1(h:s cf ρ H=.ok x CW H1)(g:forLoop cJ 0 t x (br b) cf CW H1=o):dY t s b cf ρ H=o:=by
 show (s cf ρ H).bind _=_;rw [h];exact g
theorem U9:m0=bB 29 (at' 0 m0):=rfl
theorem Hh(k:Nat)(ns:List Int)(hl:ns.length<=63): ∃H',rn (k+30) 91 [.list (ns.map .int)] []=.ok (.val (.bool true)) H':=by
 refine ae λaA=>?_;obtain ⟨n,c,h1,e1⟩:=g79 (k+28) ns (fo hl);obtain ⟨f,t,n2,c2,h3,hf,e2⟩:=g84 (k+27) (n:=n) (c:=c) m0 (jz e1 rfl);obtain ⟨F,m',h4,e4⟩:=G9 (t:=t) k n2 c2 hf wr (at' 0 m0) (UW t);refine aA ?_;rw [<-U9] at h4 e4;have q:=Y0 (k+28) (.list (ns.map .int)) (.bytes (mem f (T2 t))) [.list [.int n,.int c]] (W n c m0) (W n2 c2 m0) F;rw [e4] at q;have s1:=kB (iT λs hs=>jP (k:=91) (f:=QJ) rfl s (U2 (jG (n:=8) (l:=QJ.body)▸hs))) (.cons (a:=.ok (.val (.ref 0)) _) h1 (.cons (a:=.ok (.val (.ref 48)) _) (CY (k+17) n c) (.cons (a:=.ok (.val (.bytes (mem f (T2 t)))) _) h3 h4))) q;refine ae λb8=>?_;obtain ⟨N,hN⟩: ∃N,cJ=N+4+1:=⟨cJ-5,rfl⟩;obtain ⟨ρ',H',e⟩:=l91 (t:=t) (k:=k) hf N [.int 0,.int 1,.int 2,.int 3] 4 0 rfl (.mk (sc:=.list (ns.map .int)) (w9:=.val (.list (wr.map wrV))) (v10:=.int 6) (Hf:=.bool false) jQ (rf nR [] [] .none) (CZ (0,27)) .none .none .none []:U7 _ _ _ _ _ false _) (n:=n2) (c:=c2) (m:=m') (jz (eM (iU (M:=60) e2 e1 rfl) (100*4)) rfl);refine b8 ?_;rw [<-hN] at e;have hs:bU (ak 0) (ak 4) (rn (k+29)) (V0 (.list (ns.map .int)) (.bytes (mem f (T2 t)))) (W n2 c2 (bB 29 m'))=.ok (.vals [.int 0,.int 1,.int 2,.int 3]) (V0 (.list (ns.map .int)) (.bytes (mem f (T2 t)))) (W n2 c2 (bB 29 m')):=by kernel_rfl
 have s2:aH cF QJ.body 8 (rn (k+29)) (V0 (.list (ns.map .int)) (.bytes (mem f (T2 t)))) (W n2 c2 (bB 29 m'))=.ok .next ρ' H':=by
  rw [show aH cF QJ.body 8=dY (aj 15) (bU (ak 0) (ak 4)) QW from by kernel_rfl];exact K1 hs e
 exact ⟨H',(congrArg eB ((Hg 8 s1).trans (bQ s2))).trans rfl⟩
end PL
theorem Va:uK:=λns h=>PL.Hh 160 ns h
end MP
end Mine.Lake
end
end
open PySem PySem.W PyProof.Rows
theorem PySem.Challenge.cw_pq0650_01_holds : PySem.Challenge.rw_pq0650_01.Holds := by
 exact holds_law Mine.Lake.Q9 λsaid=>Mine.Lake.MP.Hs Mine.Lake.MP.Va said
