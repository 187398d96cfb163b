import PyProof.Rows.All
import Wide.All
import Open.Line
import Open.TreeImp
import Open.Boot
import Open.Trees2
import Open.FastT9
import OpenK.KMore
import OpenK.KCls
import OpenK.XOpen
import KE.KRevIter
import OpenK.KCall
import OpenK.KCell
import OpenK.KMake
import OpenK.KMeth
import PyProof.CompFree
import KE.KLam
import OpenK.Peek
import KE.KBytesCut
import KE.KDictList
import KE.KDictOf
import KE.KItemsList
import KE.KxBytes
import PyProof.ExcBaseAll.ValueError
import PyProof.NeKinds
import KE.KEqDict
import KE.BytesMake
import PyProof.Rows.SetFrom
import PyProof.Rows.RegStrFacts
import PyProof.FString
import KE.KIsBytes
import PyProof.PureInt
import KE.KNestM
import Lean
import PySem.Challenge.RW_tk0071_01
open PySem PySem.W PySem.Calls
set_option Elab.async false
set_option maxRecDepth 100000
set_option maxHeartbeats 0
set_option linter.unusedVariables false
set_option linter.unusedSimpArgs false
set_option genSizeOf false
set_option genCtorIdx false
set_option genInjectivity false
set_option tactic.hygienic false
namespace Mine
open Nat (ble sub_le)
open Int (neg_mul ofNat)
open List (map_nil perm_middle)
open Option (bind_some)
open PySem renaming wpAny_bind->ac,wpAny_pure->aB,Addr->aK,Value->aL,wpAny->aM,model->aQ,Shared->aW,NameKind->aY,foldedSetIterable->bN,wpAny_of_eq->bQ,typeLookup_type->bS,compareOp->bU,Str->bY,eval->ch,isSubtype_type->cD,holding->cN,standAt->cQ,Expr->cR,mainGlobals->cV,rawInt->cZ,codeAny->dD,typeLookup->dE,Builtin->dG,wpAny_holding->dL,sizeLine->dM,letTemporaryGo->dQ,wpAny_specialOf->dS,Around->dX,checkBuiltinCall->eA,stored->eJ,starEach->eK,binaryOp->eL,codeAny_call_builtin->eM,swappedStores->eQ,entryFor_of_tree->fH,entryFor->fJ,codeAny_builtin->fM,inplaceOp->fS,behindInMarks->fT,attributeBase->fU,isTrue->fY,wpAny_load->fZ,Params->g7,notedBy->gp,plainId_quiet->gD,World->gE,setItem->gF,intKind->gH,typeOf->gJ,assignEach->gK,wpAny_callSpecial?_slot->gM,sliceBounds->gN,markedBehindIn_of_false->gO,Stmt->gQ,wpAny_setField->gW,backTo->hH,Program->hJ,wpAny_attempt->hO,wpAny_call_entry->hW,noteFrame->hY,builtinsNs->i4,getItem->i5,assignInOrder->i6,wpAny_typeOf->ia,theTreesLotGoes->ij,importedModules->im,swapsWith->iA,table->iF,newFunctionEnv->iH,cameBackBy->iI,wpAny_rule->iJ,wpAny_mono->iK,wpAny_call->iM,Operator->iN,wpAny_isInstance->iT,wpAny_newObj_type->iU,subscripted->iV,excClassObj->iW,wpAny_ite_split->iY,Heap->j3,handleBy->j6,codeAmong->j7,release->jb,operate->jc,Obj->jh,wpAny_loadPart'->jq,leftWithCleanup->js,wpAny_seqItems->jC,pyIter->jD,evalEach->jL,callWith->jM,relabel->jR,isSubtype->jT,wpAny_isSubtype_exc->jX,list_getitem_lookup->jY,strLen_append->ke,execs->kg,Sem->kh,Pos->ki,sysModules->kB,pyNext->kD,isInstance->kG,closureFor->kH,getMethod->kJ,wpAny_loadPart_at->kU,spliced->kW,bindArgs->l0,call->l5,ExcBaseFacts->l8,wpAny_lookBehind->lm,truthy->lq,storeName->lx,opaqueClassAbove->lz,argsOk->lC,Result->lD,setAttr->lE,getAttr->lF,DictEntry->lL,letOwnedTupleGo->lQ,wpAny_enterFrame->lR,callerA->lY,allTrue->lZ,codeAny_of_tree->m4,OsState->m5,wpAny_loadPart->mb,wants->md,nsFind->mf,markedEach->mg,loadGlobal->mi,keeperOf->mj,evalPart->mq,bindName->mr,Slot->mu,Model->mF,wpAt_of_wpAny->mP,foldedForSure->mX,comprehension->mZ,checkTypeCall->n6,treeTable->nq,specialOf->nr,setFlight->nu,evalPairs->nA,TriplesOk->nD,Scope->nE,wpAny_field->nF,compareChain->nN,refuseLoop->nO,builtinLookup_eq_fast->nX,wpAt_bind->nY,wpAny_mkInt->oA,wpAny_letGo->oB,sizeLine_eq->oD,callStub->oH,augStore->oJ,GenState->oS,Env->oT,any_of_findIdx_some->oW,typeIs_int->pz,isType->pB,getattributeRaised->pC,denote->pD,deleteEach->pE,assign->pF,TypeCalled->pG,valueAt->pM,unaryOp->pN,slot_list_setitem->pO,slot_dict_getitem->pP,object_init_meets->pQ,delItem->pR,callAny->pS,CmpOp->pY,wpAny_comp_letGo->q8,testChain->q9,stored_length_le->qa,slicePick->qc,seqIndex?->qd,pushCells->qe,pastItsLine_dict->qf,cellsFrom->qg,Tok->qi,wpAt->qj,pushCells_keeps->qF,getitemInPython->qG,methodCallForm->r5,merged->r6,loadName->r8,firstArgMember->rf,entry_typeCall->rh,entryFor_alias->rj,constantsAlone->rn,IsPart->rB,BoolOp->rC,swapsWithSole->rD
open _root_.List renaming length_map->aA,not_mem_nil->aD,mem_map->aE,mem_append_right->aG,append_assoc->aH,getElem?_eq_some_iff->aI,map_append->aJ,size_toArray->aN,getElem?_eq_none_iff->aO,mem_singleton->aP,mem_cons->aS,mem_append_left->aU,length_append->aV,mem_of_getElem?->aX,mem_append->aZ,getElem?_eq_getElem->bE,append_nil->bG,getElem?_map->bK,replicate->bO,take_of_length_le->bT,sublist_append_right->bW,nodup_cons->bX,mem_map_of_mem->bZ,take_add_one->cE,range->cG,length_cons->cK,all_eq_true->cT,cons->cW,mem_filterMap->cX,map_map->dB,range_succ->dF,getD_eq_getElem?_getD->dI,filter_append->dJ,perm_append_comm_assoc->dO,length_range->dR,length_take->dT,length_filter_le->dZ,nodup_append->eC,eq_nil_of_length_eq_zero->eD,replicate_succ->eH,getElem?_toArray->eU,map_eq_nil_iff->eZ,map_cons->fA,flatMap_append->fB,perm_append_comm->fG,filterMap_append->fN,foldl_append->fP,perm_append_singleton->fV,mem_range->fW,drop_eq_nil_of_le->g9,flatten_append->gd,filterMap_cons_none->gi,flatMap_cons->gv,mem_replicate->gy,length_eq_zero_iff->gz,take_append_drop->gR,getElem_mem->gU,any_eq_true->gV,flatten_cons->gZ,length_replicate->hZ,append_of_mem->ic,map_inj_left->iu,any_eq_false->iz,length_filterMap_le->iD,filterMap_cons_some->iE,filter_cons_of_pos->iQ,filter_cons_of_neg->iR,contains_cons->iX,mem_filter->iZ,contains_iff_mem->j5,mem_cons_of_mem->ja,forIn_cons->jd,toList_toArray->jt,map_congr_left->ju,filterMap_cons->jv,nil_sublist->jF,length_reverse->jH,flatten_nil->jI,filter_cons->jK,push_toArray->jV,mem_toArray->kj,map_flatten->ko,lookup_cons->kq,isEmpty_map->kr,cons_append->ku,length_set->kF,reverse_cons->kX,sublist_flatten_of_mem->l7,getLast?_eq_getElem?->lI,take_length->lM,map_set->m7,foldl_cons->mo,getElem?_eq_none->mG,pairwise_append->mR,mem_of_mem_take->mS,mem_of_mem_drop->mT,map_eq_cons_iff->mU,getElem?_of_mem->mV,append_toArray->ng,nodup_nil->ny,pairwise_cons->nG,filterMap_map->nH,reverse_perm->nR,filter_congr->nS,zipIdx_cons->oh,mem_reverse->oi,mem_flatMap->oj,length_drop->ol,flatMap_def->om,ext_getElem->oo,cons_ne_nil->oq,any_toArray->ou,nil_append->oO,length_nil->oP,filter_map->oQ,take_zero->p9,map->pe,filterMap->pg,map_take->pH,any_cons->pI,length->ql
open Nat renaming le_trans->aC,le_refl->bC,zero_le->bV,le_antisymm->cA,min_le_right->dC,lt_of_le_of_lt->dW,sub_add_cancel->eP,add_le_add_left->fC,le_of_eq->fK,not_lt->g8,zero_add->gc,le_add_left->gg,succ_ne_zero->gk,lt_succ_iff_lt_or_eq->gw,succ_le_succ->gX,le_add_right->gY,lt_of_lt_of_le->ip,le_succ_of_le->iB,le_of_succ_le->iC,add_assoc->iP,sub_succ_lt_self->ji,add_le_add->jj,le_succ->jS,succ->k8,lt_succ_of_lt->k9,succ_pos->my,ne_of_lt->mz,ne_of_gt->mA,le_of_lt->mC,add_le_add_right->n9,add_right_comm->nQ,zero_lt_of_lt->oa,sub_pos_of_lt->og,succ_ne_self->oM,succ_lt_succ->oN,not_lt_zero->p5,min_le_left->p6,lt_irrefl->pV,add_comm->qk,one_pos->qR,mul_sub->qS,log2_lt->qT,sub_lt->rr
open Option renaming some_ne_none->aF,map_eq_some_iff->bF,map_eq_none_iff->ik,isNone->jg,isSome_iff_exists->li,bind_eq_some_iff->lB,none->m6,noConfusion->mQ,toList_some->oC
open Bool renaming noConfusion->aR,and_eq_true_iff->aT,false_ne_true->bJ,not_eq_true'->gq,or_eq_false_iff->gG,or_eq_true_iff->iG,eq_iff_iff->j4,not_eq_true->jE,eq_false_iff->jW,and_eq_true->kA,and_false->lj,or_true->m9,false_eq_true->nJ,or_eq_true->oU,and_true->pL,or_comm->pZ,not_not->q7
open PySem.Heap renaming get?_push_of_some->bA,get?_push_size->bI,get?_update_self->cM,SameBut->cP,size_push->cY,lt_size->gb,ExtBut->kO,get?_update_other->m8
open Classical renaming em->bB,propDecidable->cU
open Int renaming toNat_of_nonneg->bD,le_trans->bH,le_refl->bM,add_zero->ci,natCast_nonneg->cr,le_of_lt->cO,zero_add->dH,natCast_zero->dP,le_of_eq->dY,eq_ofNat_of_zero_le->fE,mul_one->fF,add_assoc->fO,self_le_toNat->fR,ofNat_le->gf,natCast_succ->gr,not_le->gA,lt_of_le_of_lt->gB,ofNat->i9,add_comm->j2,one_mul->jk,natAbs_of_nonneg->jm,toNat->jw,zero_mul->ka,toNat_natCast->kb,toNat_sub->lU,ofNat_inj->lV,mul_zero->mH,fmod_nonneg_of_pos->mI,not_lt->nU,fmod_lt_of_pos->nV,ofNat_lt->oE,ediv_le_self->oR,min_eq_left->pj,le_antisymm->pn,ediv_nonneg->pp,add_nonneg->pK,ofNat_sub->pW,toNat_le->qn,mul_comm->qo,lt_trans->qp,lt_succ->qV,add_mul->qW
open Option.some renaming inj->bL
open Eq renaming trans->bP,symm->eG
open PySem.Challenge renaming pw_tk0071_01->bR,rw_tk0071_01->dA
open PySem.Str renaming ofString->ce
open PySem.F renaming slot_dict_get->cB,slot_list_append->cI,slot_list_getattribute->gL,bm_newCall->jf,bm_called->jx,bm_plain->jN,bm_entry->jO,bm_bind->jZ,plain_reversed_new->kK,excBase_ValueError->kL,bm_sub->kM,args_object_init_2->kN,slot_dict_delitem->kP,entry_object_init->kQ,slot_list_remove->l6,slot_dict_items->lh,entry_dict_get->lG,slot_int_rmul->lO,store_object->lS,cmp_object->mw
open _root_.Array renaming getElem?_eq_some_iff->cC,toList_append->jo,length_toList->jp,mk->jQ,toArray_toList->mM,empty_append->nj,getElem_mem->nK,replicate->oz
open And renaming left->cF,right->cL,intro->gC
open PySem.W renaming typeIs_bytes->cH,Looks->dU,boot_heap->eW,emptyDict->f8,instObj->gu,looks_subIn->jG,findIn->jJ,boot_drawn->kI,takerIn->kV,looks_typeIn->kY,looks_findIn->kZ,boot_toks->lA,kla_obj->lX,looks_nsIn->mh,keepIn->mn,typeIn->nL,tabObj->nM,looks_clsIn->oF,codeHdIn->oG,namesBound->pA,SharedT->pU,staticsOk->qb,nsIn->r4,lookIn->r7,laidKept->ra,gensDone->rc,any_some->rq
open PySem.Heap.SameBut renaming update->cJ,refl->lK
open Nat.succ renaming inj->cS
open ForInStep renaming yield->dK
open True renaming intro->eE
open PySem.NameKind renaming free->eF,cell->j8
open Decidable renaming byContradiction->eN
open PySem.Obj renaming data_mapFields->eO,isFreed_of_fields->gS,mapFields->iO,putName->n8,mapSeq->nP,cls_mapFields->o9
open Prod.mk renaming inj->eX,injEq->nZ
open PySem.Builtin.Range renaming rangeSize->eY,small->kR,rangeFitsLong->qr
open PyProof renaming noPylong_small->fD
open PySem.Builtin.Bytes renaming takeBuffer?->fL,takeBufferQuiet?->gx,decodersThatHold->j9,fullReadOnly->jy,bindOptional->jz,exported->kc,write->kT,tooLong->qt,slotIsOwn->qu,sliceParts->qv,sameRef->qw,payload->qx,ownRelease->qy,joined->qz,joinLetGo->qA,fitsIndex->qB,exportsOf->qC,checkResize->qD,buffer?->qE
open Ne renaming symm->fQ
open PySem.Heap.DictOf renaming new->fX
open PySem.W.Looks renaming ld->gh,of_pure->lH,of_peek->p8
open PySem.W.FB renaming slot_bytes_getitem->gI,entry_bytes_getitem->rF,args_bytes_getitem_2->rG
open PySem.Builtin.Int renaming intBits->gP
open PySem.Keeper renaming machine->i7,boundFrame->jA,frame->lP
open PySem.W.Frag renaming In->i8
open List.cons renaming inj->ib
open PySem.Code renaming quiet_builtin->ig
open PySem.Value renaming isInt->iq,ref->lN,isStr->ms,isStrOf_shape->mO,isInt_shape->nB,type->qh
open PySem.Heap.IsSliceOf renaming new->iS
open PySem.Sem renaming wp_mono->je
open PySem.Builtin.List renaming listFitsIndex->jB,listTooLong->qX,listSubscript?->qY
open PySem.Env renaming kindOf->jP,blockKind->pX
open Membership renaming mem->jU
open PySem.Builtin renaming bitOr->la,bitAnd->nW
open List.Sublist renaming refl->lJ,append->qU
open PySem.W.KBy renaming buffer_eq->lT,tooLong_not->ph,own_buffer->pJ
open PySem.Expr renaming Name->lW
open PySem.Around renaming under_plainId->ma
open PyProof.Rows renaming step_dedup->me,evalArgs_nil3->mY,neg_int->qH,ne_str->qI,ne_int->qJ,mod_int->qK,lt_int->qL,le_int->qM,gt_int->qN,ge_int->qO,eq_str->qP,eq_int->qQ,IsTup->rA
open PySem.DictEntry renaming refKey->mK
open PySem.callAny renaming viaDunder->mN
open PySem.Builtin.Bytes.exported renaming match_1->mW
open PySem.W.WData renaming bool->n7
open List.Perm renaming swap->nh
open PySem.Builtin.BaseException renaming bexcPut->ni
open PySem.Flow renaming next->oy
open PySem.W.WTm renaming value->oK,holds->rE
open PySem.Shared renaming TypeIs->oL
open Std.Legacy.Range renaming size->oX,forIn_eq_forIn_range'->oY
open PySem.W.OpenLaw renaming row->oZ,pre->p4
open PySem.MeetsSeq.EqGives renaming int->p7
open PySem.IsRange renaming new->pi
open PySem.Heap.Ns renaming new->pq
open List.Pairwise renaming nil->qm
open Except renaming ok->qq
open PySem.Builtin.Dict renaming updateFrom->qZ
open PySem.Fin renaming again->rH
open PySem.EntryCells renaming newEntry->rI
set_option compiler.extract_closed false
def mnd (k:String)(a:Array Lean.Syntax):Lean.Syntax:=.node .none (.str `Lean.Parser.Term k) a
set_option hygiene false in
local macro_rules (kind:=Lean.Parser.Tactic.apply)|s=>let t:Lean.Term:=⟨s[1]⟩;`(tactic|refine let Y:=_;(?_:$t))
local macro_rules (kind:=Lean.Parser.Tactic.show)|s=>return s.setKind `Lean.Parser.Tactic.refine
local macro_rules (kind:=«term{_}»)|s=>return s.setKind `Lean.Parser.Term.anonymousCtor
def mdo (k:String)(x:Lean.Syntax):Lean.Syntax:=mnd "app" #[mnd "dotIdent" #[x,Lean.mkIdent (.mkSimple k)],.node .none `null #[x]]
def mby (t:Lean.Syntax):Lean.Syntax:=mnd "byTactic" #[t,.node .none `Lean.Parser.Tactic.tacticSeq #[.node .none `Lean.Parser.Tactic.tacticSeq1Indented #[.node .none `null #[t]]]]
local macro_rules (kind:=Lean.Parser.Term.omission)|s=>return mby (.node .none `tacticKernel_rfl #[s])
local macro_rules (kind:=coeNotation)|s=>return mdo "ref" s[1]
local macro_rules (kind:=char)|s=>let n:=((s.isCharLit?).getD ' ').toNat;let f:=λk:Nat=>Lean.Syntax.mkNumLit (toString k);return if n<65 then mby (.node .none `Lean.Parser.Tactic.decide #[s,.node .none `Lean.Parser.Tactic.optConfig #[.node .none `null #[]]]) else if n<97 then mdo "loc" (f (n-65)) else mdo "con" (mdo "int" (f (n-97)))
local macro_rules (kind:=Lean.Parser.Command.declaration)|s=>if s.getPos?.isNone then Lean.Macro.throwUnsupported else return Lean.Syntax.rewriteBottomUp (·.setInfo .none) (if s[1].isOfKind `Lean.Parser.Command.definition then s.modifyArg 0 (·.setArg 4 (.node .none `null #[.node .none `Lean.Parser.Command.noncomputable #[s]])) else s)
section
open PyProof.Rows
section
set_option tactic.hygienic false
theorem tt:true=true:=rfl
theorem ff0:false=false:=rfl
theorem nle{a b:Nat}(h:ble a b=true):a<=b:=Nat.le_of_ble_eq_true h
theorem dte{p:Prop}[Decidable p](h:decide p=true):p:=of_decide_eq_true h
def lnh{α:Type}(d:α)(l:List α):Nat->α:=l.rec (λ_=>d) λa _ h i=>i.rec a λi _=>h i
def lad(p:List Int):List Int->List Int:=p.rec (λq=>q) λa p r q=>q.rec (a::p) λb q _=>(a+b)::r q
def lsc(k:Int)(p:List Int):List Int:=p.rec [] λa _ r=>k*a::r
def ldo(p:List Int):(Nat->Int)->Int:=p.rec (λ_=>0) λa _ r v=>a*v 0+r λi=>v (i+1)
def lu2(i:Nat)(t:List Int):List Int:=i.rec t λ_ r=>0::0::r
def lvx:Nat->(Nat->Int)->(Nat->Int)->Int
 |0,f,_=>f 0
 |1,_,g=>g 0
 |j+2,f,g=>lvx j (λi=>f (i+1)) λi=>g (i+1)
def lva(ns:List Nat)(zs:List Int)(j:Nat):Int:=j.rec 1 λj _=>lvx j (λi=>i9 (lnh 0 ns i)) (lnh 0 zs)
structure Ltm where
 N:List Nat->Nat
 Z:List Nat->List Int->Int
 Q:List Int
 P:List Int
 hQ:∀ns zs,ldo Q (lva ns zs)=i9 (N ns)
 hP:∀ns zs,ldo P (lva ns zs)=Z ns zs
structure Lpr where
 D:List Nat->List Int->Prop
 F:List (List Int)
 G:List (List (List Int))
 hF:∀ns zs,D ns zs->∀q∈F,0<=ldo q (lva ns zs)
 hG:∀ns zs,(∀g∈G,¬∀q∈g,0<=ldo q (lva ns zs))->D ns zs
theorem Hn:ldo (lad p q) v=ldo p v+ldo q v:=by
 induction p generalizing q v with
 |nil=>show(dH _).symm
 |cons a p ih=>
 rcases q with _|⟨b,q⟩
 .show(ci _).symm
 .show bP (congrArg (_+·) ih) ?_;show bP (congrArg (·+_) (qW ..)) ?_;show bP (fO ..) (bP (congrArg (_+·) (Int.add_left_comm ..)) (fO ..).symm)
theorem Ho:ldo (lsc k p) v=k*ldo p v:=by
 induction p generalizing v with
 |nil=>show(mH _).symm
 |cons a p ih=>show bP (congrArg (_+·) ih) (bP (congrArg (·+_) (Int.mul_assoc ..)) (Int.mul_add ..).symm)
theorem lu_ok:ldo (lu2 i t) (λj=>lvx j f g)=ldo t λj=>lvx j (λk=>f (k+i)) λk=>g (k+i):=by
 induction i generalizing f g with
 |zero=>rfl
 |succ i ih=>show bP (congrArg (0*f 0+·) (congrArg (0*g 0+·) ih)) (by rw[ka,dH,ka,dH];simp only[iP])
theorem lco(h:v 0=1):ldo [k] v=k:=bP (ci _) (bP (congrArg (k*·) h) (fF _))
def Ltm.n(i:Nat):Ltm:=⟨λns=>lnh 0 ns i,λ_ _=>0,0::lu2 i [1],[],λns zs=>by
 show bP (congrArg (_+·) lu_ok) ?_;show bP (dH _) (bP (ci _) (bP (jk _) ?_));show congrArg (λk=>i9 (lnh 0 ns k)) (gc _),λ_ _=>rfl⟩
def Ltm.z(i:Nat):Ltm:=⟨λ_=>0,λ_ zs=>lnh 0 zs i,[],0::lu2 i [0,1],λ_ _=>rfl,λns zs=>by
 show bP (congrArg (_+·) lu_ok) ?_;show bP (dH _) (bP (congrArg (·+_) (ka _)) (bP (dH _) (bP (ci _) (bP (jk _) ?_))));show congrArg (lnh 0 zs) (gc _)⟩
def Ltm.k(i:Nat):Ltm:={λ_=>i,λ_ _=>i9 i,[i9 i],[i9 i],λ_ _=>lco rfl,λ_ _=>lco rfl}
def Ltm.p(x y:Nat):Ltm:={λ_=>x^y,λ_ _=>i9 x^y,[i9 (x^y)],[i9 (x^y)],λ_ _=>lco rfl,λ_ _=>bP (lco rfl) (Int.natCast_pow _ _)}
def Ltm.a(x y:Ltm):Ltm:={λns=>x.N ns+y.N ns,λns zs=>x.Z ns zs+y.Z ns zs,lad x.Q y.Q,lad x.P y.P,λns zs=>by rw[Hn,x.hQ,y.hQ];rfl,λns zs=>by rw[Hn,x.hP,y.hP]}
def Ltm.s(x y:Ltm):Ltm:={λns=>0,λns zs=>x.Z ns zs-y.Z ns zs,[],lad x.P (lsc (-1) y.P),λns zs=>rfl,λns zs=>by rw[Hn,Ho,x.hP,y.hP,neg_mul,jk];rfl}
def Ltm.m(i:Nat)(x:Ltm):Ltm:={λns=>i*x.N ns,λns zs=>i9 i*x.Z ns zs,lsc (.ofNat i) x.Q,lsc (.ofNat i) x.P,λns zs=>by rw[Ho,x.hQ];rfl,λns zs=>by rw[Ho,x.hP]}
def Ltm.w(i:Nat)(x:Ltm):Ltm:={λns=>x.N ns*i,λns zs=>x.Z ns zs*i9 i,lsc (.ofNat i) x.Q,lsc (.ofNat i) x.P,λns zs=>by rw[Ho,x.hQ,qo];rfl,λns zs=>by rw[Ho,x.hP,qo]}
def Ltm.g(x:Ltm):Ltm:={λns=>0,λns zs=> -x.Z ns zs,[],lsc (-1) x.P,λns zs=>rfl,λns zs=>by rw[Ho,x.hP,neg_mul,jk]}
def Ltm.c(x:Ltm):Ltm:={λ_=>0,λns _=>(x.N ns:Int),[],x.Q,λ_ _=>rfl,x.hQ}
def ldi(p q:List Int)(k:Int):List (List Int):=[lad (lad q (lsc (-1) p)) [k]]
theorem L4(h:ldo p (lva ns zs)<=ldo q (lva ns zs)+k):∀r∈ldi p q k,0<=ldo r (lva ns zs):=λr hr=>by
 rw[aP.mp hr,Hn,Hn,Ho,lco rfl,neg_mul,jk,Int.add_right_comm];show Int.sub_nonneg_of_le h
theorem ldn(h:¬∀r∈ldi p q k,0<=ldo r (lva ns zs)):ldo q (lva ns zs)+k<ldo p (lva ns zs):=Int.lt_of_not_ge λe=>h (L4 e)
theorem la0{a b:Int}(h:a<=b):a<=b+0:=(ci b).symm▸h
theorem la1(h:a<b):a<=b+ -1:=Int.le_sub_one_of_lt h
theorem lb0{a b:Int}(h:b+0<a):b<a:=(ci b)▸h
theorem lb1(h:b+ -1<a):b<=a:=Int.le_of_sub_one_lt h
def Lpr.le(b:Bool)(x y:Ltm):Lpr:=b.rec
 {λns zs=>x.N ns<=y.N ns,ldi x.Q y.Q 0,[ldi y.Q x.Q (-1)],λns zs h=>L4 (la0 (by rw[x.hQ,y.hQ];show gf.mpr h)),λns zs h=>gf.mp (by have:=lb1 (ldn (h _ (.head _)));rw[x.hQ,y.hQ]at this;show this)}
 {λns zs=>x.Z ns zs<=y.Z ns zs,ldi x.P y.P 0,[ldi y.P x.P (-1)],λns zs h=>L4 (la0 (by rw[x.hP,y.hP];show h)),λns zs h=>by have:=lb1 (ldn (h _ (.head _)));rw[x.hP,y.hP]at this;show this}
def Lpr.lt(b:Bool)(x y:Ltm):Lpr:=b.rec
 {λns zs=>x.N ns<y.N ns,ldi x.Q y.Q (-1),[ldi y.Q x.Q 0],λns zs h=>L4 (la1 (by rw[x.hQ,y.hQ];show oE.mpr h)),λns zs h=>oE.mp (by have:=lb0 (ldn (h _ (.head _)));rw[x.hQ,y.hQ]at this;show this)}
 {λns zs=>x.Z ns zs<y.Z ns zs,ldi x.P y.P (-1),[ldi y.P x.P 0],λns zs h=>L4 (la1 (by rw[x.hP,y.hP];show h)),λns zs h=>by have:=lb0 (ldn (h _ (.head _)));rw[x.hP,y.hP]at this;show this}
def Lpr.an(x y:Lpr):Lpr:={λns zs=>x.D ns zs/\y.D ns zs,x.F++y.F,x.G++y.G,λns zs h q hq=>(aZ.mp hq).elim (x.hF ns zs h.1 q) (y.hF ns zs h.2 q),λns zs h=>{x.hG ns zs λg hg=>h g (aU _ hg),y.hG ns zs λg hg=>h g (aG _ hg)}}
def Lpr.eq(b:Bool)(x y:Ltm):Lpr:=⟨λns zs=>b.rec (x.N ns=y.N ns) (x.Z ns zs=y.Z ns zs),((Lpr.le b x y).an (.le b y x)).F,((Lpr.le b x y).an (.le b y x)).G,
 λns zs h=>((Lpr.le b x y).an (.le b y x)).hF ns zs (by cases b;show{fK h,fK h.symm};show{dY h,dY h.symm}),
 λns zs h=>by have:=((Lpr.le b x y).an (.le b y x)).hG ns zs h;cases b;show cA this.1 this.2;show pn this.1 this.2⟩
def Lpr.f:Lpr:={λ_ _=>False,[],[[]],λ_ _ h=>h.elim,λ_ _ h=>h _ (.head _) λ_ hq=>absurd hq aD}
def Lpr.no(x:Lpr):Lpr:=⟨λns zs=>¬x.D ns zs,x.G.rec [] λg r _=>r.rec g λ_ _ _=>[],[x.F],λns zs h=>by
 rcases e:x.G with _|⟨g,_|⟨g2,r⟩⟩
 .show λq hq=>absurd hq aD
 .show Classical.byContradiction λk=>h (x.hG ns zs λg' hg=>by rw[e]at hg;rw[aP.mp hg];show k)
 .show λq hq=>absurd hq aD,λns zs h k=>h _ (.head _) (x.hF ns zs k)⟩
def lha(ns:List Nat)(zs:List Int)(t:List Lpr):Lpr->Prop:=t.rec (λh=>h.D ns zs) λg _ r h=>h.D ns zs->r g
def lhz(f:List Int->Prop)(i:Nat):List Int->Prop:=i.rec f λ_ r zs=>∀{a:Int},r (a::zs)
def lhn(f:List Nat->Prop)(i:Nat):List Nat->Prop:=i.rec f λ_ r ns=>∀{a:Nat},r (a::ns)
def lu(h:Ltm->Ltm)(es:List Ltm):List Ltm:=es.rec [] λx es _=>h x::es
def lb(h:Ltm->Ltm->Ltm)(es:List Ltm):List Ltm:=es.rec [] λy es _=>lu (h · y) es
def loo(r:Nat)(es:List Ltm)(ps:List Lpr)(t:Nat):Nat×List Ltm×List Lpr:=
 let e (m:Nat) (x:Ltm):=(r.div m,x::es,ps);let u (m:Nat) (h:Ltm->Ltm):=(r.div m,lu h es,ps);let q (h:Ltm->Ltm->Lpr):=(r,es.rec ([],ps) λy es _=>es.rec ([],ps) λx es _=>(es,h x y::ps))
 lnh (r,es,ps) [e 1 (.n 0),e 1 (.n 1),e 1 (.n 2),e 1 (.n 3),e 1 (.z 0),e 1 (.z 1),e 1 (.z 2),e 1 (.z 3),
 q (.le false),q (.lt false),q (.eq false),q (.le true),q (.lt true),q (.eq true),
 (r,es,ps.rec [] λy ps _=>ps.rec [] λx ps _=>x.an y::ps),(r,es,ps.rec [] λx ps _=>x.no::ps),(r,es,.f::ps),
 (r,lb .a es,ps),(r,lb .s es,ps),u 1 .c,u 1 (.a · (.k 1)),e 1 (.k 0),e 1 (.k 1),e 1 (.k 100),e 1 (.k 16),e 1 (.p 2 20),e 32 (.k (r.mod 32)),e 1024 (.k (r.mod 1024)),
 lnh (r,es,ps) [e 32 (.n 4),e 32 (.n 5),e 32 (.z 4),e 32 (.z 5),e 32 (.z 6),u 32 .g,e 34359738368 (.k ((r.div 32).mod 1073741824)),e 1048576 (.p ((r.div 32).mod 32) ((r.div 1024).mod 1024)),
  u 1024 (.m ((r.div 32).mod 32)),u 32768 (.m ((r.div 32).mod 1024)),u 1024 (.w ((r.div 32).mod 32)),u 32768 (.w ((r.div 32).mod 1024))] (r.mod 32),
 u 1 (.s · (.k 1)),e 1 (.k 20)] t
def lbu(f:Nat):Nat->List Ltm->List Lpr->List Lpr:=f.rec (λ_ _ ps=>ps) λ_ h n es ps=>
 bif (n.mod 32).beq 0 then ps else let x:=loo (n.div 32) es ps ((n.mod 32).sub 1);h x.1 x.2.1 x.2.2
def lps(n:Nat):List Lpr:=lbu 99 (Nat.div n 64) [] []
def Lin(n:Nat):Prop:=lhn (λns=>lhz (λzs=>(lps n).rec True λh t _=>lha ns zs t h) ((n.mod 64).div 8) []) ((n.mod 64).mod 8) []
def lz0(p:List Int):Bool:=p.rec true λa _ r=>bif decide (a=0) then r else false
def lne(p:List Int):Bool:=p.rec false λa p _=>bif decide (a<0) then lz0 p else false
def lgo(bs:List (List Int))(f:Nat):Nat->List Int->List (List Int)->List (List (List Int))->Bool:=f.rec (λ_ _ _ _=>false) λ_ h n acc fs gs=>
 let r:=n.div 32;let t:=n.mod 32
 bif t.beq 0 then bif lne acc then gs.rec true λg gs _=>h r [] (bs++g) gs else false else bif t.beq 31 then h r (lad acc acc) fs gs else h r (lad acc (lnh [] fs (t.sub 1))) fs gs
def lch(c:Nat)(t:List Lpr):Lpr->List (List Int)->Bool:=t.rec (λh bs=>h.G.rec true λg gs _=>lgo bs 99 c [] (bs++g) gs) λg _ r h bs=>r g (bs++h.F)
def lck(n c:Nat):Bool:=(lps n).rec true λh t _=>lch c t h ([0,1,2,3,4,5].map λi=>0::lu2 i [1])
theorem lz0_ok(h:lz0 p=true):ldo p v=0:=by
 induction p generalizing v with
 |nil=>rfl
 |cons a p ih=>
 by_cases e:a=0
 .rw[e]at h;show bP (congrArg (_+·) (ih h)) (bP (ci _) (by rw[e];show ka _))
 .show absurd ((show(bif decide (a=0) then lz0 p else false)=false by rw[decide_eq_false e];rfl).symm.trans h) bJ
theorem lne_ok(h:lne p=true)(h0:v 0=1):ldo p v<0:=by
 rcases p with _|⟨a,p⟩
 .show absurd h bJ
 by_cases e:a<0
 .have h:(bif decide (a<0) then lz0 p else false)=true:=h;rw[decide_eq_true e]at h;show gB (dY (bP (congrArg (_+·) (lz0_ok h)) (bP (ci _) (bP (congrArg (a*·) h0) (fF _))))) e
 .show absurd ((show(bif decide (a<0) then lz0 p else false)=false by rw[decide_eq_false e];rfl).symm.trans h) bJ
theorem W7(d:Nat)(H:∀q∈fs,0<=ldo q v):0<=ldo (lnh [] fs d) v:=by
 induction fs generalizing d with
 |nil=>show bM _
 |cons a r ih=>
 rcases d with _|d
 .show H a (.head _)
 .show ih d λq hq=>H q (.tail _ hq)
def Lok(v:Nat->Int)(fs:List (List Int)):Prop:=∀q∈fs,0<=ldo q v
theorem Lok.ap(h:Lok v a)(k:Lok v b):Lok v (a++b):=λq hq=>(aZ.mp hq).elim (h q) (k q)
theorem lgo_ok{v:Nat->Int}(h0:v 0=1)(hb:Lok v bs)(h:lgo bs f n acc fs gs=true)(ha:Lok v fs->0<=ldo acc v):¬Lok v fs/\∀g∈gs,¬Lok v g:=by
 induction f generalizing n acc fs gs with
 |zero=>show absurd h bJ
 |succ f ih=>
  have h:(bif (n.mod 32).beq 0 then bif lne acc then gs.rec true λg gs _=>lgo bs f (n.div 32) [] (bs++g) gs else false else bif (n.mod 32).beq 31 then lgo bs f (n.div 32) (lad acc acc) fs gs else lgo bs f (n.div 32) (lad acc (lnh [] fs ((n.mod 32).sub 1))) fs gs)=true:=h;generalize (n.mod 32).beq 0=b0 at h;rcases b0 with _|_
  .generalize (n.mod 32).beq 31=b1 at h;rcases b1 with _|_
   .show ih h λk=>by rw[Hn];show pK (ha k) (W7 _ k)
   .show ih h λk=>by rw[Hn];show pK (ha k) (ha k)
  .generalize e:lne acc=b1 at h;rcases b1 with _|_
   .show absurd h bJ
   .show{λk=>gA.mpr (lne_ok e h0) (ha k),?_};rcases gs with _|⟨g,gs⟩
    .show λg hg=>absurd hg aD
    .have:=ih h λ_=>bM _;show λg' hg=>(aS.mp hg).elim (λe k=>this.1 (hb.ap (e▸k))) (this.2 g')
theorem lha_ok(hb:Lok (lva ns zs) bs)(hc:lch c t h bs=true):lha ns zs t h:=by
 induction t generalizing h bs with
 |nil=>
 show h.hG ns zs ?_;have hc:(h.G.rec true λg gs _=>lgo bs 99 c [] (bs++g) gs)=true:=hc;generalize h.G=G at hc ⊢;rcases G with _|⟨g,gs⟩
 .show λg hg=>absurd hg aD
 .have:=lgo_ok rfl hb hc λ_=>bM _;show λg' hg=>(aS.mp hg).elim (λe k=>this.1 (hb.ap (e▸k))) (this.2 g')
 |cons p t ih=>show λhp=>ih (hb.ap (h.hF ns zs hp)) hc
theorem lin(n:Nat)(c:Nat)(h:lck n c=true):Lin n:=by
 have hu:∀ns zs i,0<=ldo (0::lu2 i [1]) (lva ns zs):=λns zs i=>bH (cr _) (dY ((Ltm.n i).hQ ns zs).symm);have key:∀ns zs,((lps n).rec True λh t _=>lha ns zs t h:Prop):=λns zs=>by
  have h:((lps n).rec true λh t _=>lch c t h ([0,1,2,3,4,5].map λi=>0::lu2 i [1]):Bool)=true:=h;generalize lps n=ps at h ⊢;rcases ps with _|⟨g,t⟩
  .trivial
  .show lha_ok (λq hq=>?_) h;obtain⟨i,_,rfl⟩:=aE.mp hq;show hu ns zs i
 have kz:∀(f:List Int->Prop)(k:∀zs,f zs)i zs,lhz f i zs:=λf k i=>by
  induction i with
  |zero=>show k
  |succ i ih=>show λzs a=>ih (a::zs)
 have kn:∀(f:List Nat->Prop)(k:∀zs,f zs)i zs,lhn f i zs:=λf k i=>by
  induction i with
  |zero=>show k
  |succ i ih=>show λzs a=>ih (a::zs)
 show kn _ (λns=>kz _ (λzs=>key ns zs) _ _) _ _
end
section
set_option backward.match.sparseCases false
def runT(tb:String->Option dG)(p:hJ)(w:gE)(n₀:Nat)(ann:Option aL):Nat->pU->Thread->Option pU
 |0,_,_=>none
 |n+1,s,t=>match through t with
  |true=>some s
  |false=>match stepOk n₀ ann t with
   |false=>none
   |true=>match stepT (pD tb) p w s t with
    |some (s',t')=>runT tb p w n₀ ann n s' t'
    |none=>none
theorem Qn{n:Nat}{s s':pU}{t:Thread}(h:runT tb p w n₀ ann n s t=some s'):topRun tb p w n₀ ann n s.abs t=some s'.abs:=by
 induction n generalizing s t with
 |zero=>show absurd h.symm (aF _)
 |succ n ih=>
  replace h:(match through t with|true=>some s|false=>match stepOk n₀ ann t with|false=>none|true=>match stepT (pD tb) p w s t with|some (s',t')=>runT tb p w n₀ ann n s' t'|none=>none)=some s':=h;unfold topRun;generalize through t=b at h ⊢;rcases b with _|_
  .generalize stepOk n₀ ann t=b at h ⊢;rcases b with _|_
   .show absurd h.symm (aF _)
   .generalize hs:stepT (pD tb) p w s t=o at h;rcases o with _|⟨s₂,t₂⟩
    .show absurd h.symm (aF _)
    .rw[stepT_spec hs];show ih h
  .rw[<- bL h]
def Vl:BT->Nat->List jh->BT
 |t,_,[]=>t
 |t,i,o::r=>Vl (t.ins i o) (i+1) r
def S0(w:gE)(os:m5):pU:={Vl .nil 0 (eW w.params).objs.toList,11,(eW w.params).life,jQ [],kI,lA,os}
theorem size0:∀w:gE,((eW w.params).isNs cV&&(jQ ([]:List oS)).size==0,(eW w.params).objs.size,(eW w.params).nsMap cV "__annotations__")=(true,11,some ↑6):=by
 intro w
 kernel_rfl
theorem abs0(w:gE)(os:m5):(S0 w os).abs={eW w.params,jQ [],kI,lA,os}:=⋯
theorem L5{α:Type}{Yf:aW->α}{Ya:gE->α}
  (open_:∀w:gE,(fencedOpening nq p w N).map (λs=>(s.heap,s.gens,s.drawn,s.toks))=some (eW w.params,jQ [],kI,lA)) (le:ble M N=true)
  (run:∀w:gE,(λos=>(runT nq p w 11 (some ↑6) M (S0 w os) (topStub p)).map λs=>
    ((qb (im p.main.body) (eW w.params) s.abs.heap&&pA p s.abs.heap&&rc s.abs&&ra (eW w.params) s.abs.heap),
     openSeen q loose (im p.main.body) Xt true s.abs,Yf s.abs))=λ_=>some (true,openGood q loose,Ya w)):LeftO p q loose Xt Yf Ya N:=λw=>by
 obtain⟨⟨h,gs,d,k,os⟩,e,e'⟩:=bF.mp (open_ w);obtain⟨rfl,rfl,rfl,rfl⟩:h=eW w.params/\gs=jQ []/\d=kI/\k=lA:=by simpa using e'
 obtain⟨z1,z2,z3⟩:_/\_/\_:=by simpa only [nZ] using size0 w
 obtain⟨s',hr,hs⟩:=bF.mp (congrFun (run w) os);obtain⟨l1,l2,l3⟩:_/\_/\_:=by simpa only [nZ] using hs
 have r:=Qn hr;rw[abs0]at r;have r:=topRun_mono (N-M) _ _ _ _ r;rw[show M+(N-M)=N by have:=nle le;show lin 0x58e4112c721043 9699623 ⋯ (eP this)]at r;have t:topFrom nq p w N {eW w.params,jQ [],kI,lA,os}=some s'.abs:=by
  unfold topFrom
  dsimp only
  rw[z1,z2,z3,r];change(match qb (im p.main.body) (eW w.params) s'.abs.heap&&pA p s'.abs.heap&&rc s'.abs&&ra (eW w.params) s'.abs.heap with|true=>_|false=>_)=_;rw[l1]
 unfold openEnds;rw[e,bind_some,t,Option.map_some,l2,l3]
def tst(i:Nat):gQ:=bR.main.body.getD i (.Pass default)
def W8:gQ->List gQ
 |.ClassDef _ _ _ b _ _ _ _ _ _ _=>b
 |_=>[]
def cst(i j:Nat):gQ:=(W8 (tst i)).getD j (.Pass default)
def fnO(qual:bY)(st:gQ)(pm:aL)(cd:aK)(dV:aL):jh:=match st with
 |.FunctionDef name args body _ _ _ scope _ _ _=>{cls:=.type "function",data:=.func {name,qualname:=qual,params:=args,body:=.stmts body,scope,globals:=3,closure:=[],defaults:=dV,kwdefaults:=.none,pyModule:=pm,code:=.ref cd}}
 |_=>default
def kS(s:String)(t:Nat):aL:=.str (ce s) t
def kE(P:g7)(s:String)(t:Nat)(v:aL):lL:={PyData.keyHash P (ce s),kS s t,v}
def kC(n q:String)(t l a f x:Nat)(y u v w z:aL)(s:Nat):jh:={cls:=.type "code",data:=.fields #[kS n t,kS q (t+1),kS "/claim/cut.py" (t+2),.int l 0,.int a 0,.int 0 0,.int 0 0,.int f 0,↑x,.bool true,.int 181 0,y,u,v,w,z,.int s 0,.int l 0,kS "/claim/cut.py" (s+1)]}
def kO3(P:g7):jh:={cls:=.type "dict",data:=.dict #[kE P "__name__" 165 (kS "law_tk0071_01" 888),kE P "__doc__" 166 .none,kE P "__package__" 167 .none,kE P "__loader__" 168 (.builtin "__main__.__loader__#opaque"),kE P "__spec__" 169 .none,kE P "__annotations__" 170 ↑6,kE P "__builtins__" 171 ↑4,kE P "__file__" 173 (kS "/claim/cut.py" 172),kE P "__cached__" 174 .none,kE P "_wall" 193 ↑21,kE P "BoardError" 223 ↑39,kE P "BadArgument" 239 ↑52,kE P "BadDisk" 255 ↑64,kE P "NoRoom" 271 ↑76,kE P "Crash" 296 ↑95,kE P "NUMBER" 300 (.int 4 299),kE P "MOST_EACH" 302 (.int 10 301),kE P "SPARE" 304 (.int 4 303),kE P "packed_head" 310 ↑102,kE P "numbers_of" 321 ↑109,kE P "read_head" 330 ↑116,kE P "Journal" 470 ↑218,kE P "Buffer" 597 ↑316,kE P "Cache" 748 ↑433,kE P "Disk" 880 ↑529,kE P "octets_in" 887 ↑540,kE P "_law_box" 899 ↑547,kE P "_law_take" 908 ↑554,kE P "_law_some" 914 ↑559,kE P "_law_met" 921 ↑566,kE P "_law_world" 927 ↑571,kE P "_law_head" 933 ↑576,kE P "_law_strides" 939 ↑581,kE P "_law_grouped" 947 ↑588,kE P "_law_due" 953 ↑593,kE P "_law_deed" 959 ↑598,kE P "_law_is_over" 967 ↑605,kE P "_law_plan" 982 ↑612,kE P "_law_written" 992 ↑619,kE P "_law_cut" 1006 ↑626,kE P "_law_opened" 1012 ↑631,kE P "_law_put" 1026 ↑638,kE P "_law_done" 1037 ↑645,kE P "_law_seen" 1043 ↑650,kE P "_law_run" 1049 ↑655,kE P "_law_stopped" 1058 ↑662,kE P "_law_recovered" 1064 ↑667,kE P "_law_recovered_right" 1075 ↑674,kE P "_law_point_right" 1081 ↑679,kE P "law" 1087 ↑684] 50}
def kO637(_:g7):jh:=kC "_law_put" "_law_put" 1013 488 4 3 632 ↑633 .none ↑634 ↑635 ↑636 1024
def kO638(_:g7):jh:=fnO "_law_put" (tst 37) (kS "law_tk0071_01" 888) 637 .none
def kO644(_:g7):jh:=kC "_law_done" "_law_done" 1027 497 3 3 639 ↑640 .none ↑641 ↑642 ↑643 1035
def kO645(_:g7):jh:=fnO "_law_done" (tst 38) (kS "law_tk0071_01" 888) 644 .none
def Vm:List Nat:=[0,2,3,4,20,21,29,35,36,38,39,51,52,63,64,75,76,91,92,94,95,101,102,108,109,115,116,124,130,131,137,138,144,145,151,152,158,159,165,166,172,173,179,180,186,187,193,194,200,201,207,208,214,215,217,218,235,236,242,243,249,250,256,257,263,264,270,271,277,278,284,285,291,292,298,299,305,306,312,313,315,316,333,334,340,341,347,348,354,355,361,362,368,369,375,376,382,383,389,390,396,397,403,404,410,411,417,418,422,423,429,430,432,433,450,451,457,458,464,465,471,472,478,479,485,486,492,493,499,500,506,507,513,514,520,521,525,526,528,529,539,540,546,547,553,554,558,559,565,566,570,571,575,576,580,581,587,588,592,593,597,598,604,605,611,612,618,619,625,626,630,631,637,638,644,645,649,650,654,655,661,662,666,667,673,674,678,679,683,684]
def Am(P:g7):List (Nat×jh):=[(0,boot_o_0 P),
(2,{cls:=.none,data:=.dict #[]}),
(3,kO3 P),
(4,{cls:=.type "module",dict:=some 0,data:=.plain}),
(20,kC "_wall" "_wall" 187 1 1 3 15 ↑16 .none ↑17 ↑18 ↑19 191),
(21,fnO "_wall" (tst 0) (kS "__main__" 164) 20 .none),
(29,{cls:=.type "tuple",data:=.seq #[kS "" 208]}),
(35,kC "__init__" "BoardError.__init__" 209 7 2 3 30 ↑31 .none ↑32 ↑33 ↑34 214),
(36,fnO "BoardError.__init__" (cst 2 0) (kS "pipeboard.errors" 194) 35 ↑29),
(38,{cls:=.type "dict",data:=.dict #[kE P "__module__" 203 (kS "pipeboard.errors" 194),kE P "__firstlineno__" 207 (.int 5 206),kE P "__init__" 216 ↑36,kE P "__static_attributes__" 218 ↑37,kE P "__weakref__" 220 ↑40,kE P "__doc__" 221 .none] 3}),
(39,{cls:=.type "type",data:=.cls {name:="BoardError",bases:=[.type "ValueError"],mro:=[↑39,.type "ValueError",.type "Exception",.type "BaseException",.type "object"],ns:=38,qualname:="BoardError",subclasses:=[↑52,↑64,↑76,↑95]},slots:=#[some ↑22,none,some (kS "BoardError" 196),some (kS "BoardError" 204),some (.builtin "ValueError.__new__"),some (.bool true)]}),
(51,{cls:=.type "dict",data:=.dict #[kE P "__module__" 231 (kS "pipeboard.errors" 194),kE P "__firstlineno__" 235 (.int 10 234),kE P "__static_attributes__" 236 ↑50,kE P "__doc__" 237 .none] 2}),
(52,{cls:=.type "type",data:=.cls {name:="BadArgument",bases:=[↑39],mro:=[↑52,↑39,.type "ValueError",.type "Exception",.type "BaseException",.type "object"],ns:=51,qualname:="BadArgument"},slots:=#[some ↑43,none,some (kS "BadArgument" 224),some (kS "BadArgument" 232),some (.builtin "ValueError.__new__"),some (.bool true)]}),
(63,{cls:=.type "dict",data:=.dict #[kE P "__module__" 247 (kS "pipeboard.errors" 194),kE P "__firstlineno__" 251 (.int 12 250),kE P "__static_attributes__" 252 ↑62,kE P "__doc__" 253 .none] 2}),
(64,{cls:=.type "type",data:=.cls {name:="BadDisk",bases:=[↑39],mro:=[↑64,↑39,.type "ValueError",.type "Exception",.type "BaseException",.type "object"],ns:=63,qualname:="BadDisk"},slots:=#[some ↑55,none,some (kS "BadDisk" 240),some (kS "BadDisk" 248),some (.builtin "ValueError.__new__"),some (.bool true)]}),
(75,{cls:=.type "dict",data:=.dict #[kE P "__module__" 263 (kS "pipeboard.errors" 194),kE P "__firstlineno__" 267 (.int 14 266),kE P "__static_attributes__" 268 ↑74,kE P "__doc__" 269 .none] 2}),
(76,{cls:=.type "type",data:=.cls {name:="NoRoom",bases:=[↑39],mro:=[↑76,↑39,.type "ValueError",.type "Exception",.type "BaseException",.type "object"],ns:=75,qualname:="NoRoom"},slots:=#[some ↑67,none,some (kS "NoRoom" 256),some (kS "NoRoom" 264),some (.builtin "ValueError.__new__"),some (.bool true)]}),
(91,kC "__init__" "Crash.__init__" 284 18 2 3 86 ↑87 .none ↑88 ↑89 ↑90 289),
(92,fnO "Crash.__init__" (cst 6 0) (kS "pipeboard.errors" 194) 91 .none),
(94,{cls:=.type "dict",data:=.dict #[kE P "__module__" 279 (kS "pipeboard.errors" 194),kE P "__firstlineno__" 283 (.int 16 282),kE P "__init__" 291 ↑92,kE P "__static_attributes__" 293 ↑93,kE P "__doc__" 294 .none] 2}),
(95,{cls:=.type "type",data:=.cls {name:="Crash",bases:=[↑39],mro:=[↑95,↑39,.type "ValueError",.type "Exception",.type "BaseException",.type "object"],ns:=94,qualname:="Crash"},slots:=#[some ↑79,none,some (kS "Crash" 272),some (kS "Crash" 280),some (.builtin "ValueError.__new__"),some (.bool true)]}),
(101,kC "packed_head" "packed_head" 305 25 2 3 98 ↑99 .none .none .none ↑100 308),
(102,fnO "packed_head" (tst 11) (kS "pipeboard.journal" 297) 101 .none),
(108,kC "numbers_of" "numbers_of" 311 32 1 3 103 ↑104 .none ↑105 ↑106 ↑107 319),
(109,fnO "numbers_of" (tst 12) (kS "pipeboard.journal" 297) 108 .none),
(115,kC "read_head" "read_head" 322 40 2 3 110 ↑111 .none ↑112 ↑113 ↑114 328),
(116,fnO "read_head" (tst 13) (kS "pipeboard.journal" 297) 115 .none),
(124,{cls:=.type "tuple",data:=.seq #[.none]}),
(130,kC "__init__" "Journal.__init__" 343 47 5 3 125 ↑126 .none ↑127 ↑128 ↑129 351),
(131,fnO "Journal.__init__" (cst 14 0) (kS "pipeboard.journal" 297) 130 ↑124),
(137,kC "is_own" "Journal.is_own" 354 65 2 3 132 ↑133 .none ↑134 ↑135 ↑136 359),
(138,fnO "Journal.is_own" (cst 14 1) (kS "pipeboard.journal" 297) 137 .none),
(144,kC "has_room" "Journal.has_room" 362 68 1 3 139 ↑140 .none ↑141 ↑142 ↑143 366),
(145,fnO "Journal.has_room" (cst 14 2) (kS "pipeboard.journal" 297) 144 .none),
(151,kC "left" "Journal.left" 369 71 1 3 146 ↑147 .none ↑148 ↑149 ↑150 373),
(152,fnO "Journal.left" (cst 14 3) (kS "pipeboard.journal" 297) 151 .none),
(158,kC "begin" "Journal.begin" 376 74 1 3 153 ↑154 .none ↑155 ↑156 ↑157 380),
(159,fnO "Journal.begin" (cst 14 4) (kS "pipeboard.journal" 297) 158 .none),
(165,kC "write" "Journal.write" 383 79 2 3 160 ↑161 .none ↑162 ↑163 ↑164 388),
(166,fnO "Journal.write" (cst 14 5) (kS "pipeboard.journal" 297) 165 .none),
(172,kC "end" "Journal.end" 391 93 1 3 167 ↑168 .none ↑169 ↑170 ↑171 395),
(173,fnO "Journal.end" (cst 14 6) (kS "pipeboard.journal" 297) 172 .none),
(179,kC "commit" "Journal.commit" 398 100 1 3 174 ↑175 .none ↑176 ↑177 ↑178 403),
(180,fnO "Journal.commit" (cst 14 7) (kS "pipeboard.journal" 297) 179 .none),
(186,kC "fill_log" "Journal.fill_log" 406 111 1 3 181 ↑182 .none ↑183 ↑184 ↑185 412),
(187,fnO "Journal.fill_log" (cst 14 8) (kS "pipeboard.journal" 297) 186 .none),
(193,kC "write_head" "Journal.write_head" 415 116 2 3 188 ↑189 .none ↑190 ↑191 ↑192 420),
(194,fnO "Journal.write_head" (cst 14 9) (kS "pipeboard.journal" 297) 193 .none),
(200,kC "install" "Journal.install" 423 120 3 3 195 ↑196 .none ↑197 ↑198 ↑199 432),
(201,fnO "Journal.install" (cst 14 10) (kS "pipeboard.journal" 297) 200 .none),
(207,kC "pending" "Journal.pending" 435 126 1 3 202 ↑203 .none ↑204 ↑205 ↑206 442),
(208,fnO "Journal.pending" (cst 14 11) (kS "pipeboard.journal" 297) 207 .none),
(214,kC "recover" "Journal.recover" 445 133 1 3 209 ↑210 .none ↑211 ↑212 ↑213 450),
(215,fnO "Journal.recover" (cst 14 12) (kS "pipeboard.journal" 297) 214 .none),
(217,{cls:=.type "dict",data:=.dict #[kE P "__module__" 338 (kS "pipeboard.journal" 297),kE P "__firstlineno__" 342 (.int 45 341),kE P "__init__" 353 ↑131,kE P "is_own" 361 ↑138,kE P "has_room" 368 ↑145,kE P "left" 375 ↑152,kE P "begin" 382 ↑159,kE P "write" 390 ↑166,kE P "end" 397 ↑173,kE P "commit" 405 ↑180,kE P "fill_log" 414 ↑187,kE P "write_head" 422 ↑194,kE P "install" 434 ↑201,kE P "pending" 444 ↑208,kE P "recover" 452 ↑215,kE P "__static_attributes__" 463 ↑216,kE P "__dict__" 465 ↑219,kE P "__weakref__" 467 ↑220,kE P "__doc__" 468 .none] 4}),
(218,{cls:=.type "type",data:=.cls {name:="Journal",bases:=[.type "object"],mro:=[↑218,.type "object"],ns:=217,qualname:="Journal"},slots:=#[none,none,some (kS "Journal" 331),some (kS "Journal" 339),some (.builtin "object.__new__"),some (.bool true)]}),
(235,kC "__init__" "Buffer.__init__" 485 144 3 3 230 ↑231 .none ↑232 ↑233 ↑234 491),
(236,fnO "Buffer.__init__" (cst 16 0) (kS "pipeboard.blocks" 471) 235 .none),
(242,kC "is_free" "Buffer.is_free" 494 150 1 3 237 ↑238 .none ↑239 ↑240 ↑241 498),
(243,fnO "Buffer.is_free" (cst 16 1) (kS "pipeboard.blocks" 471) 242 .none),
(249,kC "octets" "Buffer.octets" 501 153 1 3 244 ↑245 .none ↑246 ↑247 ↑248 505),
(250,fnO "Buffer.octets" (cst 16 2) (kS "pipeboard.blocks" 471) 249 .none),
(256,kC "need_part" "Buffer.need_part" 508 156 3 3 251 ↑252 .none ↑253 ↑254 ↑255 514),
(257,fnO "Buffer.need_part" (cst 16 3) (kS "pipeboard.blocks" 471) 256 .none),
(263,kC "take" "Buffer.take" 517 160 3 3 258 ↑259 .none ↑260 ↑261 ↑262 523),
(264,fnO "Buffer.take" (cst 16 4) (kS "pipeboard.blocks" 471) 263 .none),
(270,kC "put" "Buffer.put" 526 164 3 3 265 ↑266 .none ↑267 ↑268 ↑269 532),
(271,fnO "Buffer.put" (cst 16 5) (kS "pipeboard.blocks" 471) 270 .none),
(277,kC "fill" "Buffer.fill" 535 168 2 3 272 ↑273 .none ↑274 ↑275 ↑276 540),
(278,fnO "Buffer.fill" (cst 16 6) (kS "pipeboard.blocks" 471) 277 .none),
(284,kC "clear" "Buffer.clear" 543 173 1 3 279 ↑280 .none ↑281 ↑282 ↑283 547),
(285,fnO "Buffer.clear" (cst 16 7) (kS "pipeboard.blocks" 471) 284 .none),
(291,kC "little" "Buffer.little" 550 176 3 3 286 ↑287 .none ↑288 ↑289 ↑290 556),
(292,fnO "Buffer.little" (cst 16 8) (kS "pipeboard.blocks" 471) 291 .none),
(298,kC "put_little" "Buffer.put_little" 559 179 4 3 293 ↑294 .none ↑295 ↑296 ↑297 566),
(299,fnO "Buffer.put_little" (cst 16 9) (kS "pipeboard.blocks" 471) 298 .none),
(305,kC "bit" "Buffer.bit" 569 182 2 3 300 ↑301 .none ↑302 ↑303 ↑304 574),
(306,fnO "Buffer.bit" (cst 16 10) (kS "pipeboard.blocks" 471) 305 .none),
(312,kC "put_bit" "Buffer.put_bit" 577 185 3 3 307 ↑308 .none ↑309 ↑310 ↑311 583),
(313,fnO "Buffer.put_bit" (cst 16 11) (kS "pipeboard.blocks" 471) 312 .none),
(315,{cls:=.type "dict",data:=.dict #[kE P "__module__" 480 (kS "pipeboard.blocks" 471),kE P "__firstlineno__" 484 (.int 142 483),kE P "__init__" 493 ↑236,kE P "is_free" 500 ↑243,kE P "octets" 507 ↑250,kE P "need_part" 516 ↑257,kE P "take" 525 ↑264,kE P "put" 534 ↑271,kE P "fill" 542 ↑278,kE P "clear" 549 ↑285,kE P "little" 558 ↑292,kE P "put_little" 568 ↑299,kE P "bit" 576 ↑306,kE P "put_bit" 585 ↑313,kE P "__static_attributes__" 590 ↑314,kE P "__dict__" 592 ↑317,kE P "__weakref__" 594 ↑318,kE P "__doc__" 595 .none] 4}),
(316,{cls:=.type "type",data:=.cls {name:="Buffer",bases:=[.type "object"],mro:=[↑316,.type "object"],ns:=315,qualname:="Buffer"},slots:=#[none,none,some (kS "Buffer" 473),some (kS "Buffer" 481),some (.builtin "object.__new__"),some (.bool true)]}),
(333,kC "__init__" "Cache.__init__" 610 189 3 3 328 ↑329 .none ↑330 ↑331 ↑332 616),
(334,fnO "Cache.__init__" (cst 17 0) (kS "pipeboard.blocks" 471) 333 .none),
(340,kC "need_block" "Cache.need_block" 619 201 2 3 335 ↑336 .none ↑337 ↑338 ↑339 624),
(341,fnO "Cache.need_block" (cst 17 1) (kS "pipeboard.blocks" 471) 340 .none),
(347,kC "need_held" "Cache.need_held" 627 205 2 3 342 ↑343 .none ↑344 ↑345 ↑346 632),
(348,fnO "Cache.need_held" (cst 17 2) (kS "pipeboard.blocks" 471) 347 .none),
(354,kC "get" "Cache.get" 635 209 2 3 349 ↑350 .none ↑351 ↑352 ↑353 641),
(355,fnO "Cache.get" (cst 17 3) (kS "pipeboard.blocks" 471) 354 .none),
(361,kC "make_room" "Cache.make_room" 644 223 1 3 356 ↑357 .none ↑358 ↑359 ↑360 650),
(362,fnO "Cache.make_room" (cst 17 4) (kS "pipeboard.blocks" 471) 361 .none),
(368,kC "release" "Cache.release" 653 233 2 3 363 ↑364 .none ↑365 ↑366 ↑367 658),
(369,fnO "Cache.release" (cst 17 5) (kS "pipeboard.blocks" 471) 368 .none),
(375,kC "pin" "Cache.pin" 661 240 2 3 370 ↑371 .none ↑372 ↑373 ↑374 666),
(376,fnO "Cache.pin" (cst 17 6) (kS "pipeboard.blocks" 471) 375 .none),
(382,kC "unpin" "Cache.unpin" 669 244 2 3 377 ↑378 .none ↑379 ↑380 ↑381 675),
(383,fnO "Cache.unpin" (cst 17 7) (kS "pipeboard.blocks" 471) 382 .none),
(389,kC "write" "Cache.write" 678 250 2 3 384 ↑385 .none ↑386 ↑387 ↑388 683),
(390,fnO "Cache.write" (cst 17 8) (kS "pipeboard.blocks" 471) 389 .none),
(396,kC "flush" "Cache.flush" 686 255 1 3 391 ↑392 .none ↑393 ↑394 ↑395 690),
(397,fnO "Cache.flush" (cst 17 9) (kS "pipeboard.blocks" 471) 396 .none),
(403,kC "peek" "Cache.peek" 693 258 2 3 398 ↑399 .none ↑400 ↑401 ↑402 700),
(404,fnO "Cache.peek" (cst 17 10) (kS "pipeboard.blocks" 471) 403 .none),
(410,kC "poke" "Cache.poke" 703 264 3 3 405 ↑406 .none ↑407 ↑408 ↑409 710),
(411,fnO "Cache.poke" (cst 17 11) (kS "pipeboard.blocks" 471) 410 .none),
(417,kC "known" "Cache.known" 713 273 1 3 412 ↑413 .none ↑414 ↑415 ↑416 717),
(418,fnO "Cache.known" (cst 17 12) (kS "pipeboard.blocks" 471) 417 .none),
(422,kC "free_count" "Cache.free_count" 720 276 1 3 419 ↑420 .none .none .none ↑421 723),
(423,fnO "Cache.free_count" (cst 17 13) (kS "pipeboard.blocks" 471) 422 .none),
(429,kC "forget" "Cache.forget" 726 279 1 3 424 ↑425 .none ↑426 ↑427 ↑428 730),
(430,fnO "Cache.forget" (cst 17 14) (kS "pipeboard.blocks" 471) 429 .none),
(432,{cls:=.type "dict",data:=.dict #[kE P "__module__" 605 (kS "pipeboard.blocks" 471),kE P "__firstlineno__" 609 (.int 187 608),kE P "__init__" 618 ↑334,kE P "need_block" 626 ↑341,kE P "need_held" 634 ↑348,kE P "get" 643 ↑355,kE P "make_room" 652 ↑362,kE P "release" 660 ↑369,kE P "pin" 668 ↑376,kE P "unpin" 677 ↑383,kE P "write" 685 ↑390,kE P "flush" 692 ↑397,kE P "peek" 702 ↑404,kE P "poke" 712 ↑411,kE P "known" 719 ↑418,kE P "free_count" 725 ↑423,kE P "forget" 732 ↑430,kE P "__static_attributes__" 741 ↑431,kE P "__dict__" 743 ↑434,kE P "__weakref__" 745 ↑435,kE P "__doc__" 746 .none] 4}),
(433,{cls:=.type "type",data:=.cls {name:="Cache",bases:=[.type "object"],mro:=[↑433,.type "object"],ns:=432,qualname:="Cache"},slots:=#[none,none,some (kS "Cache" 598),some (kS "Cache" 606),some (.builtin "object.__new__"),some (.bool true)]}),
(450,kC "__init__" "Disk.__init__" 763 284 3 3 445 ↑446 .none ↑447 ↑448 ↑449 769),
(451,fnO "Disk.__init__" (cst 19 0) (kS "pipeboard.devices" 749) 450 .none),
(457,kC "need_power" "Disk.need_power" 772 298 1 3 452 ↑453 .none ↑454 ↑455 ↑456 776),
(458,fnO "Disk.need_power" (cst 19 1) (kS "pipeboard.devices" 749) 457 .none),
(464,kC "need_block" "Disk.need_block" 779 302 2 3 459 ↑460 .none ↑461 ↑462 ↑463 784),
(465,fnO "Disk.need_block" (cst 19 2) (kS "pipeboard.devices" 749) 464 .none),
(471,kC "read" "Disk.read" 787 306 2 3 466 ↑467 .none ↑468 ↑469 ↑470 792),
(472,fnO "Disk.read" (cst 19 3) (kS "pipeboard.devices" 749) 471 .none),
(478,kC "write" "Disk.write" 795 311 3 3 473 ↑474 .none ↑475 ↑476 ↑477 802),
(479,fnO "Disk.write" (cst 19 4) (kS "pipeboard.devices" 749) 478 .none),
(485,kC "fail" "Disk.fail" 805 323 1 3 480 ↑481 .none ↑482 ↑483 ↑484 809),
(486,fnO "Disk.fail" (cst 19 5) (kS "pipeboard.devices" 749) 485 .none),
(492,kC "flush" "Disk.flush" 812 327 1 3 487 ↑488 .none ↑489 ↑490 ↑491 818),
(493,fnO "Disk.flush" (cst 19 6) (kS "pipeboard.devices" 749) 492 .none),
(499,kC "stop_after" "Disk.stop_after" 821 336 2 3 494 ↑495 .none ↑496 ↑497 ↑498 826),
(500,fnO "Disk.stop_after" (cst 19 7) (kS "pipeboard.devices" 749) 499 .none),
(506,kC "stop_at_flush" "Disk.stop_at_flush" 829 341 2 3 501 ↑502 .none ↑503 ↑504 ↑505 834),
(507,fnO "Disk.stop_at_flush" (cst 19 8) (kS "pipeboard.devices" 749) 506 .none),
(513,kC "after" "Disk.after" 837 346 2 3 508 ↑509 .none ↑510 ↑511 ↑512 847),
(514,fnO "Disk.after" (cst 19 9) (kS "pipeboard.devices" 749) 513 .none),
(520,kC "copy" "Disk.copy" 850 358 1 3 515 ↑516 .none ↑517 ↑518 ↑519 854),
(521,fnO "Disk.copy" (cst 19 10) (kS "pipeboard.devices" 749) 520 .none),
(525,kC "image" "Disk.image" 857 361 1 3 522 ↑523 .none .none .none ↑524 860),
(526,fnO "Disk.image" (cst 19 11) (kS "pipeboard.devices" 749) 525 .none),
(528,{cls:=.type "dict",data:=.dict #[kE P "__module__" 758 (kS "pipeboard.devices" 749),kE P "__firstlineno__" 762 (.int 282 761),kE P "__init__" 771 ↑451,kE P "need_power" 778 ↑458,kE P "need_block" 786 ↑465,kE P "read" 794 ↑472,kE P "write" 804 ↑479,kE P "fail" 811 ↑486,kE P "flush" 820 ↑493,kE P "stop_after" 828 ↑500,kE P "stop_at_flush" 836 ↑507,kE P "after" 849 ↑514,kE P "copy" 856 ↑521,kE P "image" 862 ↑526,kE P "__static_attributes__" 873 ↑527,kE P "__dict__" 875 ↑530,kE P "__weakref__" 877 ↑531,kE P "__doc__" 878 .none] 4}),
(529,{cls:=.type "type",data:=.cls {name:="Disk",bases:=[.type "object"],mro:=[↑529,.type "object"],ns:=528,qualname:="Disk"},slots:=#[none,none,some (kS "Disk" 751),some (kS "Disk" 759),some (.builtin "object.__new__"),some (.bool true)]}),
(539,kC "octets_in" "octets_in" 881 363 1 3 534 ↑535 .none ↑536 ↑537 ↑538 885),
(540,fnO "octets_in" (tst 20) (kS "pipeboard.devices" 749) 539 .none),
(546,kC "_law_box" "_law_box" 890 371 1 3 541 ↑542 .none ↑543 ↑544 ↑545 897),
(547,fnO "_law_box" (tst 22) (kS "law_tk0071_01" 888) 546 .none),
(553,kC "_law_take" "_law_take" 900 378 2 3 548 ↑549 .none ↑550 ↑551 ↑552 906),
(554,fnO "_law_take" (tst 23) (kS "law_tk0071_01" 888) 553 .none),
(558,kC "_law_some" "_law_some" 909 385 2 3 555 ↑556 .none .none .none ↑557 912),
(559,fnO "_law_some" (tst 24) (kS "law_tk0071_01" 888) 558 .none),
(565,kC "_law_met" "_law_met" 915 387 1 3 560 ↑561 .none ↑562 ↑563 ↑564 919),
(566,fnO "_law_met" (tst 25) (kS "law_tk0071_01" 888) 565 .none),
(570,kC "_law_world" "_law_world" 922 395 1 3 567 ↑568 .none .none .none ↑569 925),
(571,fnO "_law_world" (tst 26) (kS "law_tk0071_01" 888) 570 .none),
(575,kC "_law_head" "_law_head" 928 403 1 3 572 ↑573 .none .none .none ↑574 931),
(576,fnO "_law_head" (tst 27) (kS "law_tk0071_01" 888) 575 .none),
(580,kC "_law_strides" "_law_strides" 934 405 3 3 577 ↑578 .none .none .none ↑579 937),
(581,fnO "_law_strides" (tst 28) (kS "law_tk0071_01" 888) 580 .none),
(587,kC "_law_grouped" "_law_grouped" 940 410 2 3 582 ↑583 .none ↑584 ↑585 ↑586 945),
(588,fnO "_law_grouped" (tst 29) (kS "law_tk0071_01" 888) 587 .none),
(592,kC "_law_due" "_law_due" 948 412 6 3 589 ↑590 .none .none .none ↑591 951),
(593,fnO "_law_due" (tst 30) (kS "law_tk0071_01" 888) 592 .none),
(597,kC "_law_deed" "_law_deed" 954 433 6 3 594 ↑595 .none .none .none ↑596 957),
(598,fnO "_law_deed" (tst 31) (kS "law_tk0071_01" 888) 597 .none),
(604,kC "_law_is_over" "_law_is_over" 960 449 2 3 599 ↑600 .none ↑601 ↑602 ↑603 965),
(605,fnO "_law_is_over" (tst 32) (kS "law_tk0071_01" 888) 604 .none),
(611,kC "_law_plan" "_law_plan" 968 451 3 3 606 ↑607 .none ↑608 ↑609 ↑610 980),
(612,fnO "_law_plan" (tst 33) (kS "law_tk0071_01" 888) 611 .none),
(618,kC "_law_written" "_law_written" 983 466 2 3 613 ↑614 .none ↑615 ↑616 ↑617 990),
(619,fnO "_law_written" (tst 34) (kS "law_tk0071_01" 888) 618 .none),
(625,kC "_law_cut" "_law_cut" 993 472 3 3 620 ↑621 .none ↑622 ↑623 ↑624 1004),
(626,fnO "_law_cut" (tst 35) (kS "law_tk0071_01" 888) 625 .none),
(630,kC "_law_opened" "_law_opened" 1007 485 2 3 627 ↑628 .none .none .none ↑629 1010),
(631,fnO "_law_opened" (tst 36) (kS "law_tk0071_01" 888) 630 .none),
(637,kO637 P),
(638,kO638 P),
(644,kO644 P),
(645,kO645 P),
(649,kC "_law_seen" "_law_seen" 1038 514 7 3 646 ↑647 .none .none .none ↑648 1041),
(650,fnO "_law_seen" (tst 39) (kS "law_tk0071_01" 888) 649 .none),
(654,kC "_law_run" "_law_run" 1044 523 4 3 651 ↑652 .none .none .none ↑653 1047),
(655,fnO "_law_run" (tst 40) (kS "law_tk0071_01" 888) 654 .none),
(661,kC "_law_stopped" "_law_stopped" 1050 537 3 3 656 ↑657 .none ↑658 ↑659 ↑660 1056),
(662,fnO "_law_stopped" (tst 41) (kS "law_tk0071_01" 888) 661 .none),
(666,kC "_law_recovered" "_law_recovered" 1059 542 3 3 663 ↑664 .none .none .none ↑665 1062),
(667,fnO "_law_recovered" (tst 42) (kS "law_tk0071_01" 888) 666 .none),
(673,kC "_law_recovered_right" "_law_recovered_right" 1065 552 4 3 668 ↑669 .none ↑670 ↑671 ↑672 1073),
(674,fnO "_law_recovered_right" (tst 43) (kS "law_tk0071_01" 888) 673 .none),
(678,kC "_law_point_right" "_law_point_right" 1076 559 6 3 675 ↑676 .none .none .none ↑677 1079),
(679,fnO "_law_point_right" (tst 44) (kS "law_tk0071_01" 888) 678 .none),
(683,kC "law" "law" 1082 578 1 3 680 ↑681 .none .none .none ↑682 1085),
(684,fnO "law" (tst 45) (kS "law_tk0071_01" 888) 683 .none)]
def L6(P:g7):List (Nat×jh):=(633,{cls:=.none,data:=.fields #[]})::(640,{cls:=.none,data:=.fields #[]})::Am P
theorem Qo(P:g7):633::640::Vm=(L6 P).map (·.1):=⋯
def kHk:Hook where
 α:=List (Option jh)
 obs:=λs=>(633::640::Vm).map s.heap.get?
 val:=λw=>(L6 w.params).map λp=>some p.2
 says:=λw h=>i8 (L6 w.params) h
 of:=λw _ e=>Frag.in_of (Qo w.params) e
 keeps:=λ_ _ _ x k=>Frag.In.keeps x k
def vw:hJ:=view bR [45]
def lse:List bY:=((["BoardError","BadArgument","BadDisk","NoRoom","Crash","NUMBER","MOST_EACH","SPARE","_wall","packed_head","numbers_of","read_head","Journal","Buffer","Cache","Disk","octets_in",
 "_law_box","_law_take","_law_some","_law_met","_law_world","_law_head","_law_strides","_law_grouped","_law_due","_law_deed","_law_is_over","_law_plan","_law_written","_law_cut","_law_opened","_law_put","_law_done","_law_seen","_law_run","_law_stopped","_law_recovered","_law_recovered_right","_law_point_right"]:List String).map ce)
noncomputable abbrev F0:OpenRow:=oZ dA
def theXt(s:aW):Bool:=xlAt vw [] s&&recOk (RowW.records (OpenRow.toRowW F0)) s
theorem Pe:opening bR=plainProg bR.main.scope.names:=⋯
theorem To:∀s,fenceModules? bR s=some s:=by intro s;kernel_rfl
theorem run0(w:gE):(λos=>(runT nq bR w 11 (some ↑6) 4600 (S0 w os) (topStub bR)).map λs=>
    ((qb (im bR.main.body) (eW w.params) s.abs.heap&&pA bR s.abs.heap&&rc s.abs&&ra (eW w.params) s.abs.heap),
     openSeen vw lse (im bR.main.body) theXt true s.abs,kHk.obs s.abs))=λ_=>some (true,openGood vw lse,kHk.val w):=⋯
theorem W9:LeftO F0.prog vw lse theXt kHk.obs kHk.val 4600:=
 L5 (M:=4600) (boot_open Pe '#' To) '#' run0
end
section
theorem Jp:mu "reversed" "__init__" "object.__init__":=
 .of (owner:="object") (n:="__init__") (by rw[bS];kernel_rfl) (by decide +kernel) (by decide +kernel) (by decide +kernel)
  (by first|show .inl (by decide +kernel)|show .inr (by decide +kernel)) (by rw[cD];kernel_rfl)
theorem D9:pG "reversed" "reversed.__new__" "object.__init__":=
 {by decide +kernel,PySem.F.create_reversed,{_,_,PySem.F.mro_reversed},PySem.F.made_reversed,by decide +kernel,PySem.F.sub_reversed_self,Jp}
theorem Ci:mu "reversed" "__next__" "reversed.__next__":=
 .of (owner:="reversed") (n:="__next__") (by rw[bS];kernel_rfl) (by decide +kernel) (by decide +kernel) (by decide +kernel)
  (by first|show .inl (by decide +kernel)|show .inr (by decide +kernel)) (by rw[cD];kernel_rfl)
theorem F1:fJ iF "reversed.__next__"=some dG.«reversed.__next__»:=fH rfl
theorem Fk(a:aL):lC "reversed.__next__" {[a],[]}:=⋯
theorem Fl:mu "reversed" "__iter__" "reversed.__iter__":=
 .of (owner:="reversed") (n:="__iter__") (by rw[bS];kernel_rfl) (by decide +kernel) (by decide +kernel) (by decide +kernel)
  (by first|show .inl (by decide +kernel)|show .inr (by decide +kernel)) (by rw[cD];kernel_rfl)
theorem Ip:fJ iF "reversed.__iter__"=some dG.«dict_keyiterator.__iter__»:=
 rj (id':="dict_keyiterator.__iter__") ⋯ (by first|rfl|decide +kernel) (by decide +kernel) ⋯
theorem Jq(a:aL):lC "reversed.__iter__" {[a],[]}:=⋯
theorem Hp:dE (.type "bytes") "__reversed__"=pure none:=by rw[bS];kernel_rfl
theorem Hq:dE (.type "bytes") "__getitem__"=pure (some (.builtin "bytes.__getitem__")):=gI.lookup
def Gq(h:j3)(I:aK)(b:List UInt8)(k:Int):Prop:=∃o t,h.get? I=some o/\o.cls=.type "reversed"/\o.data=.fields #[.bytes b.toArray t,cZ k]
section
variable{prog:hJ}{w:gE}{A:dX}{E:aL->aW->Prop}{s:aW}
theorem Gq.typeIs(x:Gq s.heap I b k):s.TypeIs ↑I "reversed":=(x).elim λo y0=>y0.elim λ_ y1=>y1.elim λho y2=>y2.elim λhc _=>⟨o,ho,hc⟩
theorem J4(hit:Gq s.heap I b k)(h:Q ↑I s):aM (aQ prog w) A (jD ↑I) Q E s:=by
 show wpAny_pyIter_slot hit.typeIs Fl (hW Fl hit.typeIs Ip ?_ (Jq _));show aB {_,rfl,"reversed",_,hit.typeIs,Ci.lookup,h}
theorem L7(hh:A.handled=none)(hit:Gq s.heap I b (-1))
  (hQ:∀h',kO I s.heap h'->Q none {s with heap:=h'}):aM (aQ prog w) A (kD ↑I) Q E s:=by
 apply Y;obtain⟨o,t,ho,hc,hd⟩:=id hit;show ac (hO (gM (name:="__next__") hit.typeIs Ci
  (hW Ci hit.typeIs F1 ?_ (Fk _))))
 show(let K4:=_;let K5:=_;(?_:@aM _ _ _ _ K4 K5 _));show ac (bQ (a:=(.ref I,[])) rfl ?_);show ac (wpAny_field ho hd (x:=.bytes b.toArray t) rfl ?_);show ac (wpAny_field ho hd (x:=cZ (-1)) rfl ?_);show ac (iJ ?_);show ac ?_;show ac (gW ho hd (gg _ _) ?_);have d1:=eO hd (λvs=>vs.setIfInBounds 1 (cZ (-1)));show gW (cM (iO (λvs=>vs.setIfInBounds 1 (cZ (-1)))) ho (gS d1)) d1 (gY _ _) ?_;apply @aM _ _ _ _ _ _ Y;show ac ?_;apply @aM _ _ _ _ Y _ _;show ac ?_;apply @aM _ _ _ _ Y _ _;show ac (iU ?_ (by size_fits));apply @aM _ _ _ _ _ _ Y;show ac (m:=rf _ _) (bQ (a:=.none) (by first|rfl|(rw[rf];rfl)) ?_)
 show iU ?_ (by size_fits);show ac (wpAny_handled ?_);apply @aM _ _ _ _ _ _ Y;first|apply Y;rw[show A.in1.handled=none from hh]|rw[hh]
 show ac (aB (wpAny_throw ?_));show ac (iT (T:="StopIteration") (b:=true) {_,bI _ rfl,rfl} isSubtype_stop ?_);show aB (hQ _ ((((cJ ..).trans (cJ ..)).extBut.push _).push _))
theorem Jr{i:Nat}(hi:i<b.length)(hz:b.length<=2^20)(hit:Gq s.heap I b (i:Int))
  (hQ:∀h' t k,Gq h' I b ((i:Int)-1)->cP I s.heap h'->Q (some (.int (b.getD i 0).toNat t)) {s with heap:=h',toks:=k}):aM (aQ prog w) A (kD ↑I) Q E s:=by
 apply Y;obtain⟨o,t,ho,hc,hd⟩:=id hit;show ac (hO (gM (name:="__next__") hit.typeIs Ci
  (hW Ci hit.typeIs F1 ?_ (Fk _))))
 show(let K4:=_;let K5:=_;(?_:@aM _ _ _ _ K4 K5 _));show ac (bQ (a:=(.ref I,[])) rfl ?_);show ac (wpAny_field ho hd (x:=.bytes b.toArray t) rfl ?_);show ac (wpAny_field ho hd (x:=cZ (i:Int)) rfl ?_);show ac (dS (T:="bytes") (cH _ _ _) Hq ?_);show ac (oA (ac (hO ?_)));apply @aM _ _ _ _ _ _ Y;show getItem_bytes (aC ‹_› (nle rfl)) (cr _) (gf.mpr ‹_›) ?_;apply @aM _ _ _ _ _ _ Y;dsimp only;show ac (wpAny_field ho hd (x:=cZ (i:Int)) rfl ?_);show ac (gW ho hd (gg _ _) ?_);have d1:=eO hd (λvs=>vs.setIfInBounds 1 (cZ ((i:Int)-1)));show aB {_,rfl,aB (hQ _ _ _ {_,t,(cM (iO (λvs=>vs.setIfInBounds 1 (cZ ((i:Int)-1)))) ho (gS d1)),(o9 ..).trans hc,?_} (cJ ..))};simp only[d1];simp
theorem Wa(hz:b.length<=2^20)(h:∀k,Gq (s.heap.push {cls:=.type "reversed",data:=.fields #[.bytes b.toArray t,cZ ((b.length:Int)-1)]}) s.heap.objs.size b ((b.length:Int)-1)->Q ↑s.heap.objs.size {s with heap:=s.heap.push {cls:=.type "reversed",data:=.fields #[.bytes b.toArray t,cZ ((b.length:Int)-1)]},toks:=k}):
  dD (aQ prog w) A (.call (.builtin "reversed.__new__") {[.type "reversed",.bytes b.toArray t],[]}) (md Q E) s:=by
 show m4 ?_;show ac (bQ (PySem.F.newCall_reversed_1 _) (aB {gD kK _,fM PySem.F.entry_reversed_new ?_}));rw[ma kK _];unfold dG.«reversed.__new__»;show ac (bQ (newClass_reversed _) ?_)
 dsimp only
 show ac (bQ (a:=()) (by first|rfl|kernel_rfl) ?_)
 show ac (bQ (a:=()) (by first|rfl|kernel_rfl) ?_)
 show ac (dS (T:="bytes") (cH _ _ _) Hp ?_)
 dsimp only
 show ac ?_;show ac (iT (T:="bytes") (b:=false) (cH _ _ _) (by rw[cD];kernel_rfl) ?_);show ac (dS (T:="bytes") (cH _ _ _) Hq (aB ?_));show ac (len_bytes (by rw[aN];show aC ‹_› (nle rfl)) ?_);show ac (bQ rfl ?_);show ac ?_;change aM _ _ (newObj (.type "reversed") (.fields #[.bytes b.toArray t,cZ ((b.toArray.size:Int)-1)])) _ _ _;show iU ?_ (by size_fits);show aB (h _ {_,t,bI _ rfl,rfl,rfl})
theorem Js(hz:b.length<=2^20)(h:∀k,Gq (s.heap.push {cls:=.type "reversed",data:=.fields #[.bytes b.toArray t,cZ ((b.length:Int)-1)]}) s.heap.objs.size b ((b.length:Int)-1)->Q ↑s.heap.objs.size {s with heap:=s.heap.push {cls:=.type "reversed",data:=.fields #[.bytes b.toArray t,cZ ((b.length:Int)-1)]},toks:=k}):
  aM (aQ prog w) A (call (.type "reversed") [.bytes b.toArray t]) Q E s:=by
 show callType_codes (Q₁:=λobj s₁=>s₁.TypeIs obj "reversed"/\Q obj s₁) D9 (PySem.F.typeCall_reversed_1 _) kQ (Wa hz λk x=>{{_,bI _ rfl,rfl},h k x}) λobj s₁ h₁=>?_;show{h₁.1,kN obj _,pQ D9.init.lookup D9.made tt prog w A.in1 _ s₁ {h₁.1,rfl,h₁.2}}
end
def Fm:List String:=j9++["bytearray.__contains__","bytearray.__mod__","bytearray.__rmod__","_struct.pack_into.held","bytearray.find.held"]
def Nc:Code->Bool
 |.builtin id _=>!Fm.contains id
 |_=>true
def Nice(Γ:Ctx):Prop:=Nc Γ.code=true/\∀x∈Γ.below,Nc x.1=true
def A2{α:Type}(M:mF)(A:dX)(t:kh α)(Q:α->aW->Prop)(E:aL->aW->Prop)(s:aW):Prop:=
 ∀Γ p,Γ.In A->Nice Γ->Sem.wp M Γ t (λa _ s'=>Q a s') (λe _ s'=>E e s') p s
def Ae(M:mF)(A:dX)(c:Code)(R:lD->aW->Prop)(s:aW):Prop:=
 Nc c=true/\∀Γ p,Γ.code=c->Γ.Below A->(∀x∈Γ.below,Nc x.1=true)->wpCode M Γ R p s
noncomputable abbrev kAny {α:Type}:=@aM α
noncomputable abbrev Wb:=@dD
section
variable{α β:Type}{M:mF}{A:dX}{E:aL->aW->Prop}{s:aW}
theorem lf{t:kh α}(h:kAny M A t Q E s):A2 M A t Q E s:=λΓ p hΓ b=>h Γ p hΓ
theorem A1{a:α}(h:Q a s):A2 M A (pure a) Q E s:=λb b b b=>h
theorem A4{Q Q':α->aW->Prop}(h:A2 M A t Q E s)(hQ:∀a s,Q a s->Q' a s)(hE:∀e s,E e s->E' e s):A2 M A t Q' E' s:=
 λΓ p hΓ hN=>je M Γ t (λa b s=>hQ a s) (λe b s=>hE e s) p s (h Γ p hΓ hN)
theorem A0{m:kh α}{Q:β->aW->Prop}(h:A2 M A m (λa s'=>A2 M A (f a) Q E s') E s):A2 M A (m >>= f) Q E s:=λΓ p hΓ hN=>by
 simp only[Sem.wp_bind'];show je M Γ m (λa p' s' h'=>h' Γ p' hΓ hN) (λb b b h'=>h') p s (h Γ p hΓ hN)
theorem Ac{f:α->kh β}(h:A2 M A m P E s)(n:∀a s',P a s'->A2 M A (f a) Q E s'):A2 M A (m >>= f) Q E s:=
 A0 (A4 h n λb b e=>e)
theorem Bv{m:kh α}(h:A2 M A m Q (λe s'=>A2 M A (k e) (λa s''=>E e s'') E s') s):A2 M A (m.onRaise k) Q E s:=λΓ p hΓ hN=>by
 simp only[Sem.wp_onRaise];show je M Γ m (λa a a h'=>h') (λe p' s' h'=>h' Γ p' hΓ hN) p s (h Γ p hΓ hN)
theorem Du{m:kh α}(h:A2 M A m (λa=>Q (.ok a)) (λe=>Q (.error e)) s):A2 M A m.attempt Q E s:=λΓ p hΓ hN=>by
 simp only[Sem.wp_attempt];show h Γ p hΓ hN
theorem A3{m:kh α}(h:A2 M A m Q E s):A2 M A (cN vs m) Q E s:=λΓ p hΓ hN=>by simp only[Sem.wp_holding];show h Γ p hΓ hN
theorem Ba(h:A2 M A m Q E s):A2 M A (jc vs m) Q E s:=λΓ p hΓ hN=>by simp only[Sem.wp_operate];show h Γ p hΓ hN
theorem Hr(h:A2 M A m Q E s):A2 M A (jc vs m) Q E s:=Ba h
theorem Cn(h:Q () s):A2 M A (rule tag) Q E s:=λa a a a=>h
theorem A5(h:Q () s):A2 M A (cQ pos) Q E s:=λa a a a=>h
theorem F9(h:Q () s):A2 M A point Q E s:=λa a a a=>h
theorem Dv(h:Q s.heap.objs.size {s with heap:=s.heap.push o}):A2 M A (alloc o) Q E s:=λa a a a=>h
theorem Cc{a:α}(e:t=pure a)(h:Q a s):A2 M A t Q E s:=by rw[e];show A1 h
theorem E3(h:Q {M.prog,M.w.params} s):A2 M A ask Q E s:=λa a a a=>h
theorem L8[Decidable c]{a b:kh α}(h:if c then A2 M A a Q E s else A2 M A b Q E s):A2 M A (if c then a else b) Q E s:=by split<;>simp_all
theorem Hs[Decidable c]{a b:kh α}(h1:c->A2 M A a Q E s)(h2:¬ c->A2 M A b Q E s):A2 M A (if c then a else b) Q E s:=by
 by_cases h:c
 .rw[if_pos h];show h1 h
 .rw[if_neg h];show h2 h
theorem Dm(h:A2 M A (lx env x v) Q E s):A2 M A (mr env x v) Q E s:=λΓ p hΓ hN=>by simp only[Sem.wp_bindName];show h Γ p hΓ hN
theorem Be(h:Ae M A c R s)(hR:∀r s,R r s->R' r s):Ae M A c R' s:={h.1,λΓ p hc hΓ hN=>wpCode_mono hR (h.2 Γ p hc hΓ hN)}
theorem Nice.enter(hN:Nice Γ):∀x∈(Γ.enter c h p).below,Nc x.1=true:=λx hx=>by
 rcases aS.mp hx with rfl|hx
 .show hN.1
 .show hN.2 x hx
theorem L9(hc:Ae M (A.mark h) c (λr s'=>match r with|.ok f=>Q f s'|.error e=>E e s') s)(hnb:h≠some byPass):A2 M A (run c h) Q E s:=
 λΓ p hΓ hN=>by rw[Sem.wp_run];show hc.2 _ p rfl (hΓ.enter c h p hnb) hN.enter
theorem Iq(hc:Ae M A c (λr s'=>match r with|.ok (.ret v)=>Q v s'|.ok _=>False|.error e=>E e s') s):A2 M A (runValue c) Q E s:=
 λΓ p hΓ hN=>by rw[Sem.wp_runValue];show hc.2 _ p rfl (hΓ.enter c none p (by intro x;show absurd x (dte tt))) hN.enter
theorem Cg(hc:Ae M A (.call f ⟨pos,kw⟩) (λr s'=>match r with|.ok (.ret v)=>Q v s'|.ok _=>False|.error e=>E e s') s):A2 M A (call f pos kw) Q E s:=Iq hc
theorem Ai(hn:Nc c=true)
  (h:A2 M (A.under c) (M.den c) (λfin s'=>match fin with|.done f=>R (.ok f) s'|.again c'=>c'.quiet=true/\Ae M A c' R s') (λe s'=>R (.error e) s') s):Ae M A c R s:=⟨hn,λΓ p hc hΓ hN=>by
 rw[wpCode_iff_wp,hc];show je M Γ _ (λfin p' s' h'=>?_) (λa a a h'=>h') p s (h Γ p (hc▸hΓ.in) {(hc▸hn),hN})
 induction fin using PySem.Fin.casesOn with
 |done f=>show h'
 |again c'=>show{h'.1,h'.2.2 (Γ.goto c') p' rfl (hΓ.goto c') hN}⟩
theorem Fo(hn:Nc c=true)(hq:c.quiet=true)(I:Nat->aW->Prop)
  (turn:∀n s,I n s->A2 M (A.under c) (M.den c) (λfin s'=>match fin with|.done f=>R (.ok f) s'|.again c'=>(c'=c/\∃m,m<n/\I m s')\/(c'.quiet=true/\Ae M A c' R s')) (λe s'=>R (.error e) s') s)
  (n:Nat) (h:I n s):Ae M A c R s:=by
 induction n using Nat.strongRecOn generalizing s with
 |ind n ih=>
  show Ai hn (A4 (turn n s h) (λfin s' hf=>?_) λa a h'=>h')
  induction fin using PySem.Fin.casesOn with
  |done f=>show hf
  |again c'=>
   clear hn turn;apply Y;rcases hf with⟨rfl,m,hm,hI⟩|hf
   .show{hq,ih m hm hI}
   .show hf
theorem La(hn:Nc c=true)(hq:c.quiet=true)(I:Nat->aW->Prop)
  (turn:∀n s,I n s->A2 M (A.under c) (M.den c) (λfin s'=>match fin with|.done f=>R (.ok f) s'|.again c'=>c'=c/\∃m,m<n/\I m s') (λe s'=>R (.error e) s') s)
  (n:Nat) (h:I n s):Ae M A c R s:=
 Fo hn hq I (λn s hI=>A4 (turn n s hI) (λfin s' hf=>by induction fin using PySem.Fin.casesOn with|done f=>show hf|again c'=>show .inl hf) λa a e=>e) n h
end
set_option backward.match.sparseCases false
section
variable{α β:Type}{M:mF}{A:dX}{E:aL->aW->Prop}{s:aW}{env:oT}
theorem Bl(h:Q () s):A2 M A (jb vs ks) Q E s:=λΓ p a a=>by simp only[Sem.wp_release];show h
theorem Co(h:Q b s):A2 M A (lq (.bool b)) Q E s:=λa a a a=>h
theorem Db(h:Q .next s):A2 M A (kg [] env) Q E s:=λa a a a=>h
theorem Fa(h:A2 M A (ch e env) Q E s):A2 M A (mq (some e) env) Q E s:=h
theorem Ld(h:A2 M A (pE targets env) (λa s₁=>Q .next s₁) E s):A2 M A (exec (.Delete targets pos) env) Q E s:=by
 simp only[arm_exec_Delete];show A0 (A5 (Ac h λa a h₁=>A1 h₁))
theorem E9(h:A2 M A (delete t env) (λa s₁=>A2 M A (pE rest env) Q E s₁) E s):A2 M A (pE (t::rest) env) Q E s:=by
 simp only[arm_deleteEach_cons];show A0 h
theorem E4(h:A2 M A (ch o env) (λov s₁=>A2 M A (ch i env) (λiv s₂=>A2 M A (pR ov iv) Q E s₂) E s₁) E s):A2 M A (delete (.Subscript o i pos) env) Q E s:=by
 show Ac h λa a h₁=>A0 (A3 (A4 h₁ (λa a h₂=>A0 (A5 (A0 (A3 (A4 h₂ (λa a h₃=>Bl h₃) λa a e=>e))))) λa a e=>e))
theorem Mv(h:A2 M A (fY test env (ch test env)) (λb s₁=>if b then A2 M A (ch body env) Q E s₁ else A2 M A (ch orelse env) Q E s₁) E s):
  A2 M A (ch (.IfExp test body orelse pos) env) Q E s:=by
 simp only[arm_eval_IfExp];show Ac h λb s₁ h₁=>by rcases b<;>show h₁
theorem Tp(h:A2 M A (fY test env (ch test env)) (λb s₂=>if b then A2 M A (kg body env) Q E s₂ else A2 M A (kg orelse env) Q E s₂) E s):
  A2 M A (exec (.If test body orelse pos) env) Q E s:=by
 simp only[arm_exec_If];show A0 (A5 (Ac h λb s₁ h₁=>by rcases b<;>show h₁))
theorem E5(h:A2 M A (fY x env (ch x env)) (λb s₁=>if b then A2 M A (lZ .And rest env) Q E s₁ else Q false s₁) E s):A2 M A (lZ .And (x::rest) env) Q E s:=by
 show Ac h λb s₁ h₁=>by rcases b;show A1 h₁;show h₁
theorem Ea(h:A2 M A (fY x env (ch x env)) (λb s₁=>if b then Q true s₁ else A2 M A (lZ .Or rest env) Q E s₁) E s):A2 M A (lZ .Or (x::rest) env) Q E s:=by
 show Ac h λb s₁ h₁=>by rcases b;show h₁;show A1 h₁
theorem Fp(h:A2 M A whole (λv s₁=>A2 M A (lq v) Q E s₁) E s)
  (he:fY e env whole=(do let v <- whole;cQ e.pos;cN [v] (lq v))):A2 M A (fY e env whole) Q E s:=by
 rw[he];show Ac h λv s₁ h₁=>A0 (A5 (A3 h₁))
theorem Fb(h:A2 M A (lZ op values env) Q E s):A2 M A (fY (.BoolOp op values pos) env whole) Q E s:=by simp only[arm_isTrue_BoolOp];show h
theorem Gx(h:A2 M A (fY x env (ch x env)) (λb s₁=>Q (!b) s₁) E s):A2 M A (fY (.UnaryOp .Not x pos) env whole) Q E s:=by
 simp only[arm_isTrue_UnaryOp];show Ac h λb s₁ h₁=>A1 h₁
theorem Ir(h:A2 M A (ch l env) (λa s₁=>A2 M A (ch r env) (λb s₂=>A2 M A (bU op a b) Q E s₂) E s₁) E s)
  (hm:fT op r=false):A2 M A (ch (.Compare l [op] [r] pos) env) Q E s:=by
 rw[eval_Compare1,gO hm];show Ac h λa s₁ h₁=>A0 (A3 (A4 h₁ (λb s₂ h₂=>A0 (A5 (Ba h₂))) λc c e=>e))
theorem Eb(h:A2 M A (ch l env) (λa s₁=>A2 M A (ch r env) (λb s₂=>A2 M A (bU op a b) (λc s₃=>A2 M A (lq c) Q E s₃) E s₂) E s₁) E s)
  (hm:fT op r=false):A2 M A (fY (.Compare l [op] [r] pos) env whole) Q E s:=by
 rw[isTrue_Compare1,gO hm];show Ac h λa s₁ h₁=>A0 (A3 (A4 h₁ (λb s₂ h₂=>A0 (A5 (A0 (Ba (A4 h₂ (λc s₃ h₃=>A3 h₃) λd d e=>e))))) λd d e=>e))
theorem Mw(h:A2 M A (ch l env) (λa s₁=>A2 M A (ch r env) (λb s₂=>A2 M A (eL op a b) Q E s₂) E s₁) E s):A2 M A (ch (.BinOp l op r pos) env) Q E s:=by
 show Ac h λa s₁ h₁=>A0 (A3 (A4 h₁ (λb s₂ h₂=>A0 (A5 (Ba h₂))) λc c e=>e))
theorem Jt(h:A2 M A (ch x env) (λv s₁=>A2 M A (pN op v) Q E s₁) E s):A2 M A (ch (.UnaryOp op x pos) env) Q E s:=by
 simp only[arm_eval_UnaryOp];show Ac h λv s₁ h₁=>A0 (A5 (A3 h₁))
theorem Ar{id:bY}(h:A2 M A (ch (.Name id p) env) (λf s₁=>A2 M A (jM pos f [] (hH pos (eK args env)) []) Q E s₁) E s):
  A2 M A (ch (.Call (.Name id p) args [] pos) env) Q E s:=by
 show A0 h
theorem Bz(h:A2 M A (kW ((false,x)::rest)) (λvs s'=>Q {vs,[]} s') E s):A2 M A (evalArgs f true ((false,x)::rest) []) Q E s:=by
 show Ac h λvs s' h'=>A3 (A0 (A1 (A0 (A1 (A1 h')))))
theorem Cd{f:aL}{P:j3->Prop}(hplain:(args.any (·.1)||keywords.any (·.1.isNone))=false)
  (hk:∀h,P h->∃k,(k=lP\/k=i7\/k=jA)/\dU M h (mj f) k)
  (h:A2 M A (evalArgs f true args keywords) (λa s₁=>P s₁.heap/\A2 M A (call f (first++a.pos) a.kw) Q E s₁) E s):A2 M A (jM pos f first args keywords) Q E s:=by
 show A0 (A3 (A4 h (λa s₁ h₁=>A0 (A5 ?_)) λb b x=>x));obtain⟨k,hk',L⟩:=hk _ h₁.1;rw[hplain];show A0 (lf (L.here ?_));have tail:∀{t:kh aL},A2 M A t Q E s₁->A2 M A (t >>= λr=>cN [r] point >>= λb=>pure r) Q E s₁:=
  λht=>Ac ht λr s₂ hr=>A0 (A3 (F9 (A1 hr)))
 have marked (mk:aL):A2 M A (callMarked mk f (first++a.pos) a.kw) Q E s₁:=λΓ p hΓ hN=>by unfold callMarked;simp only[Sem.wp_keep];show h₁.2 Γ p hΓ hN
 clear L;rcases hk' with rfl|rfl|rfl<;>dsimp only<;>first|show tail h₁.2|(split<;>first|show tail h₁.2|show tail (marked _))
theorem Iu(h:A2 (aQ prog w) A (ch value env) (λo s₁=>A2 (aQ prog w) A (lF o attr true) Q E s₁) E s)
  (he:ch (.Attribute value attr pos) env=(do
   let o <- ch value env
   cQ pos.atName
   let r <- cN [o] (lF o attr true)
   dQ value o r
   pure r)):A2 (aQ prog w) A (ch (.Attribute value attr pos) env) Q E s:=by
 rw[he];show Ac h λo s₁ h₁=>A0 (A5 (A0 (A3 (A4 h₁ (λr s₂ h₂=>A0 (lf (wpAny_letTemporaryGo (A1 h₂)))) λa a x=>x))))
theorem Iw(h:A2 (aQ prog w) A (ch e env) (λa=>Q .next) E s)(hi:interactive env=false)(hs:iA e none pos.line env=pure false):
  A2 (aQ prog w) A (exec (.Expr e pos) env) Q E s:=by
 rw[exec_Expr env e pos hi hs];show A0 (A5 (Ac h λv s' h'=>lf (wpAny_dropValue h')))
theorem Cq(h:A2 M A (ch e env) (λv=>Q (.ret v)) E s):A2 M A (exec (.Return (some e) pos) env) Q E s:=by
 simp only[exec_Return_some];show A0 (A5 (Ac h λv s' h'=>A1 h'))
theorem Ch(h:A2 M A (t x) (λa s₁=>A2 M A (i6 ts xs) Q E s₁) E s):A2 M A (i6 (t::ts) (x::xs)) Q E s:=
 A0 (A3 h)
theorem Fq(hh:A.handled=none)(ht:s.heap.IsTuple t items)
  (hn:(gK elts env).length=items.size) (hstar:(gK elts env).findIdx? (·.1)=none)
  (h:∀h',kO s.heap.objs.size s.heap h'->A2 (aQ prog w) A (i6 ((gK elts env).map (·.2)) items.toList) Q E {s with heap:=h'}):A2 (aQ prog w) A (pF (.Tuple elts x1 pos) env ↑t) Q E s:=by
 show A0 (A5 ?_);unfold unpack;rw[hn,hstar];show A0 (A3 (lf (PySem.wpAny_unpackItems_tuple hh ht h)))
theorem Ce(h:A2 M A (ch value env) (λv s₁=>A2 M A (assignAll v ((gK targets env).map (·.2))) (λa=>Q .next) E s₁) E s)
  (hs:rD targets value pos.line env=pure false) (hw:eQ targets value env=pure none):A2 M A (exec (.Assign targets value pos) env) Q E s:=by
 show A0 (A5 ?_);rw[hs];apply @A2 _ _ _ Y _ _ _;show A0 (A1 ?_);show Ac h λv s₁ h₁=>?_;rw[hw];show A0 (A1 ?_);show Ac h₁ λa a x=>A1 x
theorem D5
  (h:A2 M A (ch o env) (λov s₁=>A2 M A (lF ov attr true) (λold s₂=>A2 M A (ch value env) (λv s₃=>A2 M A (fS op old v) (λnew s₄=>A2 M A (lE ov attr new) (λa=>Q .next) E s₄) E s₃) E s₂) E s₁) E s) :
  A2 M A (exec (.AugAssign (.Attribute o attr tpos) op value pos) env) Q E s:=by
 have e:exec (.AugAssign (.Attribute o attr tpos) op value pos) env=(do
   cQ pos
   let ov <- ch o env;let new <- cN [ov] do
    cQ tpos.atName
    let old <- lF ov attr true;let v <- cN [old] (ch value env)
    cQ pos
    jc [old,v] (fS op old v)
   cQ tpos.atName
   cN [new,ov] (lE ov attr new)
   jb [new,ov] []
   pure .next):=rfl
 show A0 (A5 (Ac h λov s₁ h₁=>A0 (A3 (A0 (A5 (Ac h₁ λold s₂ h₂=>?_))))));show(let K3:=_;let K4:=_;(?_:@A2 _ _ _ K3 K4 _ _));show A0 (A3 (A4 h₂ (λv s₃ h₃=>A0 (A5 (Ba (A4 h₃ (λnew s₄ h₄=>?_) λa a x=>x)))) λa a x=>x));show A0 (A5 (A0 (A3 (A4 h₄ (λa a h₅=>A0 (Bl (A1 h₅))) λa a x=>x))))
theorem D6
  (h:A2 M A (ch o env) (λov s₁=>A2 M A (ch i env) (λiv s₂=>A2 M A (i5 ov iv) (λold s₃=>A2 M A (ch value env) (λv s₄=>A2 M A (fS op old v) (λnew s₅=>A2 M A (gF ov iv new) (λa=>Q .next) E s₅) E s₄) E s₃) E s₂) E s₁) E s)
  (hi:∀ov iv new,oJ i ov iv new=(do cN [new,ov,iv] (gF ov iv new);jb [new,ov,iv] [];pure .next)) :
  A2 M A (exec (.AugAssign (.Subscript o i tpos) op value pos) env) Q E s:=by
 have e:exec (.AugAssign (.Subscript o i tpos) op value pos) env=(do
   cQ pos
   let ov <- ch o env;let iv <- cN [ov] (ch i env);let new <- cN [ov,iv] do
    cQ tpos
    let old <- i5 ov iv;let v <- cN [old] (ch value env)
    cQ pos
    jc [old,v] (fS op old v)
   cQ tpos
   oJ i ov iv new):=rfl
 show A0 (A5 (Ac h λov s₁ h₁=>A0 (A3 (A4 h₁ (λiv s₂ h₂=>?_) λa a x=>x))));show A0 (A3 (A0 (A5 (Ac h₂ λold s₃ h₃=>A0 (A3 (A4 h₃ (λv s₄ h₄=>?_) λa a x=>x))))));show A0 (A5 (Ba (A4 h₄ (λnew s₅ h₅=>A0 (A5 ?_)) λa a x=>x)));rw[hi];show A0 (A3 (A4 h₅ (λa s₆ h₆=>A0 (Bl (A1 h₆))) λa a x=>x))
theorem Gf(h:A2 M A (r8 env x) Q E s)(hd:(x==("__debug__" : bY))=false):A2 M A (ch (.Name x pos) env) Q E s:=by
 rw[eval_Name env x pos hd];show A0 (A5 h)
theorem Bw(hk:env.scope.kind=.function)(hx:env.kindOf x=some .globalImplicit)(h:A2 M A (mi env x) Q E s)(hd:(x==("__debug__" : bY))=false):A2 M A (ch (.Name x pos) env) Q E s:=by
 show Gf ?_ hd;rw[loadName_read hk hx];show h
theorem Dc{m:kh α}(h:A2 M A m Q (gp M A env E) s):A2 M A (m.onRaise λx=>do hY x env;ij x) Q E s:=
 Bv (A4 h (λa a q=>q) λa a hx=>lf (ac (iK hx (λa a e=>wpAny_theTreesLotGoes e) λa a e=>e)))
theorem Fs{m:kh α}(h:A2 M A m Q (gp M A env E) s):A2 M A (m.onRaise λx=>do hY x env;cQ pos) Q E s:=
 Bv (A4 h (λa a q=>q) λa a hx=>lf (ac (iK hx (λa a e=>PySem.wpAny_standAt e) λa a e=>e)))
theorem Ht{t:kh α}(hE:PassesOwn M A env E)(h:A2 M A t Q E s):A2 M A t Q (gp M A env (iI M A env E)) s:=A4 h (λa a x=>x) hE
theorem Dh(hc:Ae M (A.mark h) c (λr s'=>match r with|.ok f=>Q f s'|.error e=>iI M A env E e s') s)(hnb:h≠some byPass):A2 M A (runOwn c env h) Q E s:=by
 show Bv (L9 (Be hc λr s' hr=>by
  induction r using Except.casesOn with
  |ok f=>show hr
  |error e=>show lf hr) hnb)
theorem Qp
  (h:A2 M A (ch iter env) (λx s₁=>A2 M A (jD x) (λit s₂=>Ae M A (.forLoop target it body orelse env) (λr s'=>match r with|.ok f=>Q f s'|.error e=>iI M A env E e s') s₂) E s₁) E s)
  (hs:∀x,bN iter env x=pure x):A2 M A (exec (.For target iter body orelse pos) env) Q E s:=by
 show A0 (A5 (Ac h λx s₁ h₁=>A0 (Cc (hs x) (A0 (A5 (A0 (A3 (A4 h₁ (λit s₂ h₂=>Dh h₂ (λx=>absurd x.symm (aF _))) λa a e=>e))))))))
theorem Gy
  (h:A2 M A (kg body env) (λf s₁=>match f with|.next=>A2 M A (kg orelse env) Q E s₁|f=>Q f s₁)
   (λe s₁=>A2 M A (hY e env) (λa s₂=>A2 M A (nu e none) (λa s₃=>A2 M A (j6 e env (h₀::hs)) Q E s₃) E s₂) E s₁) s):A2 M A (exec (.Try body (h₀::hs) orelse [] pos) env) Q E s:=by
 show A0 (A5 ?_);show A0 (Du (A4 h (λf s₁ h₁=>?_) λe s₁ h₁=>?_))
 .rcases f<;>first|show h₁|show A1 h₁
 .show Ac h₁ λa a h₂=>A0 h₂
theorem Ft(h:A2 M A (passOn "try.no-clause-matches" e env) Q E s):A2 M A (j6 e env []) Q E s:=by delta j6;show h
theorem Fc
  (h:Ae M (A.mark (some e)) (.handlers e [.ExceptHandler (some t) none [] pos] env) (λr s₁=>match r with
   |.ok .brk=>Ae M (A.mark (some e)) (.handlers e [.ExceptHandler none none body pos] env) (λr s₂=>match r with
     |.ok f=>Q f s₂
     |.error x=>iI M A env E x s₂) s₁
   |.ok _=>A2 M A (j6 e env rest) Q E s₁
   |.error x=>iI M A env E x s₁) s) (hnb:e≠byPass):A2 M A (j6 e env (.ExceptHandler (some t) none body pos::rest)) Q E s:=by
 have hnb':=λx=>hnb (bL x);show A0 (A3 (Dh (Be h (λr s₁ h₁=>?_)) hnb'))
 induction r using Except.casesOn with
 |error x=>show h₁
 |ok f=>
  induction f using PySem.Flow.casesOn with
  |brk=>
   show A0 (A1 ?_);show A0 (A3 (Dh (Be h₁ (λr s₂ h₂=>?_)) hnb'))
   induction r using Except.casesOn with
   |error x=>show h₂
   |ok f=>show A1 h₂
  |_=>
   show A0 (A1 ?_);show h₁
end
end
section
set_option backward.match.sparseCases false
section
variable{α β:Type}{w:gE}{A:dX}{E:aL->aW->Prop}{s:aW}{env:oT}{R:lD->aW->Prop}
theorem Le
  (h:A2 (aQ prog w) (A.deeper env) (kg body env) (λf s'=>R (.ok (.ret (match f with|.ret v=>v|_=>.none))) s')
   (λe s'=>kAny (aQ prog w) (A.deeper env) (leaving env e) (λa s''=>R (.error e) s'') (λe' s''=>R (.error e') s'') s') s):Ae (aQ prog w) A (.func body env) R s:=by
 show Ai rfl ?_;apply @A2 _ _ _ _ Y _ _;show A0 (F9 (A0 (Bv (A4 h (λf s' h'=>?_) λa a h'=>lf h'))));rcases f<;>show A1 h'
theorem Lf
  (h:A2 (aQ prog w) (A.deeper env) (ch e env) (λv s'=>R (.ok (.ret v)) s')
   (λe s'=>kAny (aQ prog w) (A.deeper env) (leaving env e) (λa s''=>R (.error e) s'') (λe' s''=>R (.error e') s'') s') s):Ae (aQ prog w) A (.expr e env) R s:=by
 show Ai rfl ?_;apply @A2 _ _ _ _ Y _ _;show A0 (F9 (A0 (Bv (A4 h (λf s' h'=>A1 h') λa a h'=>lf h'))))
theorem Ec(hroom:A.depth<recursionLimit)(ho:s.heap.get? a=some o)
  (hd':o.data=.func fd) (hco:fd.scope.isCoroutine=false) (hgen:fd.scope.isGenerator=false) (hbody:fd.body=.stmts body) (hcd:s.heap.CodeRec fd.code fd.qualname)
  (h:A2 (aQ prog w) A.in1 (l0 fd args) (λbinds s₁=>
   A2 (aQ prog w) A.in1 (iH fd.scope fd.globals fd.closure binds (fd.qualname++".<locals>.") (some a) fd.code none fd.builtins)
    (λenv s₂=>s₂.heap.NoLimit/\Ae (aQ prog w) A (.func body env) R s₂) (λe s'=>R (.error e) s') s₁) (λe s'=>R (.error e) s') s):Ae (aQ prog w) A (.call ↑a args) R s:=by
 show Ai rfl ?_;apply @A2 _ _ _ _ Y _ _;change A2 _ A.in1 (pS ↑a args) _ _ s;show A0 (lf (fZ ho ?_));obtain⟨c,oc,vs,tq,hc,hoc,hdc,hq⟩:=hcd;simp only[hd',callFunction,hco,hgen,hbody,hc];rw[hc]at h;show A0 (m:=field ↑c 1) (lf (nF hoc hdc hq (A0 (A1 ?_))));show Ac h λbinds s₁ h₁=>Ac h₁ λenv s₂ h₂=>A0 (lf (lR h₂.1 hroom (A1 (gC rfl h₂.2))))
theorem Ed{id:String}(hn:Fm.contains id=false)(hb:fJ iF id=some b)
  (h:A2 (aQ prog w) (A.under (.builtin id args)) (b args) (λfin s'=>match fin with|.done f=>R (.ok f) s'|.again c'=>c'.quiet=true/\Ae (aQ prog w) A c' R s') (λe s'=>R (.error e) s') s):Ae (aQ prog w) A (.builtin id args) R s:=by
 show Ai (by change(!Fm.contains id)=true;rw[hn];rfl) ?_;apply @A2 _ _ _ _ Y _ _;change A2 _ _ (match fJ iF id with|some b=>b args|none=>unsupported ((withoutEnding? id "#data").getD id)) _ _ s;simp only[hb];show h
theorem Bq{id:String}(hn:Fm.contains id=false)(hq:(Code.builtin id args).quiet=true)(hb:fJ iF id=some b)
  (h:A2 (aQ prog w) A.in1 (eA id args) (λa s₁=>A2 (aQ prog w) (A.under (.builtin id args)) (b args)
   (λfin s'=>match fin with|.done f=>R (.ok f) s'|.again c'=>c'.quiet=true/\Ae (aQ prog w) A c' R s') (λe s'=>R (.error e) s') s₁) (λe s'=>R (.error e) s') s):Ae (aQ prog w) A (.call (.builtin id) args) R s:=by
 show Ai rfl ?_;apply @A2 _ _ _ _ Y _ _;show Ac h λa s₁ h₁=>A1 (gC hq (Ed hn hb h₁))
theorem Bx{id:String}(hn:Fm.contains id=false)(hq:plainId id=true)(hb:fJ iF id=some b)
  (h:A2 (aQ prog w) A.in1 (eA id args) (λa s₁=>A2 (aQ prog w) A.in1 (b args)
   (λfin s'=>match fin with|.done f=>R (.ok f) s'|.again c'=>c'.quiet=true/\Ae (aQ prog w) A c' R s') (λe s'=>R (.error e) s') s₁) (λe s'=>R (.error e) s') s):Ae (aQ prog w) A (.call (.builtin id) args) R s:=
 Bq hn (gD hq args) hb (by rw[ma hq args];show h)
theorem Ju(h:A2 (aQ prog w) A (kg stmts env) (λf s'=>R (.ok f) s') (gp (aQ prog w) A env λe s'=>R (.error e) s') s):Ae (aQ prog w) A (.block stmts env) R s:=by
 show Ai rfl ?_;apply @A2 _ _ _ _ Y _ _;show A0 (Dc (A4 h (λf s' h'=>A1 h') λa a h'=>h'))
theorem Fd(I:Nat->aW->Prop)
  (turn:∀n s,I n s->A2 (aQ prog w) A (kD it) (λr s₁=>match r with
   |none=>A2 (aQ prog w) A (kg orelse env) (λf s₃=>R (.ok f) s₃) (gp (aQ prog w) A env λe s'=>R (.error e) s') s₁
   |some v=>A2 (aQ prog w) A (lQ target it v) (λa s₁'=>
     A2 (aQ prog w) A (pF target env v) (λa s₂=>A2 (aQ prog w) A (kg body env) (λf s₃=>match f with
      |.next|.cont=>∃m,m<n/\I m s₃
      |.brk=>R (.ok .next) s₃
      |.ret v=>R (.ok (.ret v)) s₃) (gp (aQ prog w) A env λe s'=>R (.error e) s') s₂) (gp (aQ prog w) A env λe s'=>R (.error e) s') s₁') (gp (aQ prog w) A env λe s'=>R (.error e) s') s₁) (gp (aQ prog w) A env λe s'=>R (.error e) s') s)
  (n:Nat) (h:I n s):Ae (aQ prog w) A (.forLoop target it body orelse env) R s:=by
 apply @Ae _ _ Y _ _;show Fo rfl rfl I (λn s hI=>?_) n h;show(let K2:=_;let K3:=_;let K4:=_;(?_:@A2 _ _ K2 K3 K4 _ _));change A2 _ A ((forTurn target it body orelse env).onRaise (λx=>do hY x env;ij x)) _ _ s;show Dc ?_;apply @A2 _ _ _ _ _ Y _;show A0 (A5 (A0 (Bv (A4 (turn n s hI) (λr s₁ h₁=>?_) λa a h'=>A5 h'))))
 induction r using Option.casesOn with
 |none=>show A1 (.inr {rfl,Ju h₁})
 |some v=>
  show Ac h₁ λa s₁' h₁'=>Ac h₁' λa s₂ h₂=>Ac h₂ λf s₃ h₃=>?_
  induction f using PySem.Flow.casesOn with
  |next=>show A1 (.inl ⟨rfl,h₃⟩)
  |cont=>show A1 (.inl ⟨rfl,h₃⟩)
  |brk=>show A1 h₃
  |ret v=>show A1 h₃
theorem Ee
  (h:A2 (aQ prog w) A (ch t env) (λc s₁=>A2 (aQ prog w) A (excMatches e c) (λb s₂=>R (.ok (if b then .brk else .next)) s₂) (gp (aQ prog w) A env λx s₂=>R (.error x) s₂) s₁) (gp (aQ prog w) A env λx s₁=>R (.error x) s₁) s) :
  Ae (aQ prog w) A (.handlers e [.ExceptHandler (some t) none [] pos] env) R s:=by
 apply @Ae _ _ Y _ _;show Ai rfl ?_;show(let K2:=_;let K3:=_;let K4:=_;(?_:@A2 _ _ K2 K3 K4 _ _));change A2 _ A (do return Fin.done (<- (handleWith e env [.ExceptHandler (some t) none [] pos]).onRaise (λx=>do hY x env;ij x))) _ _ s;show A0 (Dc ?_);show(let K3:=_;let K4:=_;let K5:=_;(?_:@A2 _ _ _ K3 K4 K5 _));show A0 (A5 (Ac h λc s₁ h₁=>A0 (A5 (Ac h₁ λb s₂ h₂=>A1 (A1 h₂)))))
theorem E6
  (h:A2 (aQ prog w) A (nu e none) (λa s₁=>A2 (aQ prog w) A (kg (b₀::body) env) (λf s₂=>R (.ok f) s₂) (gp (aQ prog w) A env λx s₂=>R (.error x) s₂) s₁) (gp (aQ prog w) A env λx s₁=>R (.error x) s₁) s) :
  Ae (aQ prog w) A (.handlers e [.ExceptHandler none none (b₀::body) pos] env) R s:=by
 show Ai rfl ?_;show(let K2:=_;let K3:=_;let K4:=_;(?_:@A2 _ _ K2 K3 K4 _ _));change A2 _ A (do return Fin.done (<- (handleWith e env [.ExceptHandler none none (b₀::body) pos]).onRaise (λx=>do hY x env;ij x))) _ _ s;show A0 (Dc ?_);show A0 (A5 (Ac h λa s₁ h₁=>A4 h₁ (λf s₂ h₂=>A1 h₂) λa a x=>x))
theorem E7
  (h0:Ae (aQ prog w) A (.compLoop (.ListComp elt ({target,iter,ifs,0}::rest) scope pos) 0 it acc env) R s)
  (h:A2 (aQ prog w) A (jD it) (λit' s'=>Ae (aQ prog w) A (.compLoop (.ListComp elt ({target,iter,ifs,0}::rest) scope pos) 0 it' acc env) R s') (gp (aQ prog w) A env λx s'=>R (.error x) s') s) :
  Ae (aQ prog w) A (.compStart (.ListComp elt ({target,iter,ifs,0}::rest) scope pos) 0 it acc env) R s:=by
 show Ai rfl ?_;show(let K2:=_;let K3:=_;let K4:=_;(?_:@A2 _ _ K2 K3 K4 _ _));show Fs ?_;show(let K3:=_;let K5:=_;(?_:@A2 _ _ _ K3 _ K5 _));show A0 (E3 (L8 ?_));split
 .first
   |show A0 (A1 (A1 (gC rfl h0)))
   |show A1 (gC rfl h0)
 .show A0 (Cn ?_);show A0 (A5 (Ac h λit' s' h'=>A1 (gC rfl h')))
theorem Ew
  (h0:Ae (aQ prog w) A (.compLoop (.ListComp elt (c0::{target,iter,ifs,0}::rest) scope pos) 1 it acc env) R s)
  (h:A2 (aQ prog w) A (jD it) (λit' s'=>Ae (aQ prog w) A (.compLoop (.ListComp elt (c0::{target,iter,ifs,0}::rest) scope pos) 1 it' acc env) R s') (gp (aQ prog w) A env λx s'=>R (.error x) s') s) :
  Ae (aQ prog w) A (.compStart (.ListComp elt (c0::{target,iter,ifs,0}::rest) scope pos) 1 it acc env) R s:=by
 show Ai rfl ?_;show(let K2:=_;let K3:=_;let K4:=_;(?_:@A2 _ _ K2 K3 K4 _ _));show Fs ?_;apply @A2 _ _ _ _ _ Y _;show A0 (E3 (L8 ?_));split
 .first
   |show A0 (A1 (A1 (gC rfl h0)))
   |show A1 (gC rfl h0)
 .show A0 (Cn ?_);show A0 (A5 (Ac h λit' s' h'=>A1 (gC rfl h')))
theorem Hu(h:Q true s):
  A2 (aQ prog w) A (forIn ([]:List cR) true λc r=>if r=true then do let ok <- fY c env (ch c env);pure (dK ok) else pure (dK r)) Q E s:=A1 h
theorem Hv(h:A2 (aQ prog w) A (fY c env (ch c env)) Q E s):
  A2 (aQ prog w) A (forIn [c] true λc r=>if r=true then do let ok <- fY c env (ch c env);pure (dK ok) else pure (dK r)) Q E s:=by
 show A0 (Ac h λb s' hb=>A1 (A1 hb))
theorem Fe
  (h:A2 (aQ prog w) A (kW (hH pos (eK elts env))) (λvs s₁=>vs.length<=dM/\Q ↑s₁.heap.objs.size {s₁ with heap:=s₁.heap.push {cls:=.type "tuple",data:=.seq vs.toArray}}) E s):A2 (aQ prog w) A (ch (.Tuple elts x1 pos) env) Q E s:=by
 simp only[arm_eval_Tuple];show A0 (A5 (Ac h λvs s₁ h₁=>lf (PySem.wpAny_newTuple h₁.2 h₁.1)))
theorem Fu
  (h:A2 (aQ prog w) A (kW (hH pos (eK elts env))) (λvs s₁=>vs.length<=dM/\Q ↑s₁.heap.objs.size {s₁ with heap:=s₁.heap.push {cls:=.type "list",data:=.seq vs.toArray}}) E s):A2 (aQ prog w) A (ch (.List elts pos) env) Q E s:=by
 simp only[arm_eval_List];show A0 (A5 (Ac h λvs s₁ h₁=>lf (PySem.wpAny_newList h₁.2 h₁.1)))
theorem Qq(h:A2 (aQ prog w) A (nA pairs) Q E s):A2 (aQ prog w) A (nA pairs) (λvs s'=>vs.length=pairs.length/\Q vs s') E s:=
 λΓ p hΓ hN=>wp_evalPairs_len _ Γ pairs _ _ p s (h Γ p hΓ hN)
theorem Gz{K:Type}[DecidableEq K]{knd:KeyKind prog w K}{pos:ki}
  (hshape:(evalEachOpt keys env).zip ((jL values env).map λv=>do let x <- v;cQ pos;pure x)=pairs.map λp=>(some p.1,p.2)) (h0:pairs≠[]) (hlen:pairs.length<=15)
  (h:A2 (aQ prog w) A (nA pairs) (λvs s₁=>∃kvs,Carries knd vs kvs/\s₁.heap.DictOf knd s.heap.objs.size [] /\
   ∀h',h'.DictOf knd s.heap.objs.size (r6 [] kvs)->cP s.heap.objs.size s₁.heap h'->Q ↑s.heap.objs.size {s₁ with heap:=h',toks:=s₁.toks+vs.length}) E
   {s with heap:=s.heap.push {cls:=.type "dict",data:=.dict #[]}}):A2 (aQ prog w) A (ch (.Dict keys values pos) env) Q E s:=by
 simp only[arm_eval_Dict,hshape,dictDisplay_pairs pairs h0 (dW ‹_› (nle rfl))];show A0 (A5 (A0 ?_));apply @A2 _ _ _ _ Y _ _;show A0 (Dv (A0 (A3 ?_)));apply @A2 _ _ _ _ Y _ _;rw[if_pos hlen];show Ac (Qq h) λvs s₁ h₁=>?_;apply Y;obtain⟨hvl,kvs,hc,hm,hQ⟩:=h₁;have hsz:([]:List (K×aL)).length+kvs.length<=dM:=by
  have e:=hc.length;simp only[oD,oP];show lin 0x4bf6358c4b105208000001bb20d83 403719 tt hlen hvl e
 show A3 (A0 (lf (PySem.wpAny_storeAll (knd:=knd) vs kvs [] s₁ _ hc hm hsz λh' hm' hs'=>A1 (A1 (A1 (hQ h' hm' hs'))))))
end
end
section
section
variable{prog:hJ}{w:gE}{A:dX}{C:aK}{R:lD->aW->Prop}{h:j3}{g:Array oS}{d:Drawn}{t:Nat}{os:m5}
theorem Qr(Y0:Makes (aQ prog w) h C)(hi:dU (aQ prog w) h (dE ↑C "__init__") (some init))
  (hb:∀self,dU (aQ prog w) h (bindSpecial init self) (init,[self])) (hne:(some init !=some (.builtin "object.__init__"))=true\/(rest=[]/\([]:List (bY×aL))=[]))
  (hq:Ae (aQ prog w) (A.under (.builtin "type.__call__" {.ref C::rest,[]})) (.call init {.ref (h.objs.size+1)::rest,[]}) (InitBack (h.objs.size+1) R) {(h.push f8).push (gu C h.objs.size),g,d,t,os}) :
  Ae (aQ prog w) A (.call ↑C {rest,[]}) R ⟨h,g,d,t,os⟩:=by
 apply Y;have Y1:=Y0;obtain⟨⟨oc,od,cd,sl,hC,e1,e2,e4⟩,made,base,self,top,call,typ⟩:=Y0;show Ai rfl ?_;change A2 _ _ (pS ↑C _) _ _ _;unfold pS;show A0 (lf (fZ (s:=⟨h,g,d,t,os⟩) hC ?_));apply @A2 _ _ _ Y _ _ _;change A2 _ _ (mN ↑C _) _ _ _;unfold mN;show A0 (lf (call.here (s:=⟨h,g,d,t,os⟩) ?_))
 dsimp only
 rw[tc_bind];show A0 (A1 (A0 (A1 ?_)));show A1 (a:=rH (.call (.builtin "type.__call__") {.ref C::rest,[]})) (gC rfl ?_);show Bq (by decide +kernel) (ig _ (by decide +kernel)) rh (lf (check_slot (s:=⟨h,g,d,t,os⟩) tc_kind tc_split typ (tc_args _ _ _) ?_));unfold dG.«type.__call__»;have hm:dU (aQ prog w) h (mroOf ↑C) cd.mro:=((gh (part:=none) hC).andThen .now).andThen .now
 dsimp only
 rw[if_neg (show ¬ (lN C==.type "type")=true by simp)];show A0 (lf (hm.here (s:=⟨h,g,d,t,os⟩) ?_));rw[if_neg (by rw[e4];decide)];apply @A2 _ _ _ _ Y _ _;show A0 (lf (made.here (s:=⟨h,g,d,t,os⟩) ?_))
 dsimp only
 show A0 (A1 (A0 (A3 (lf (iM (new_K Y1 hi hne ?_))))));have k:∀b o,h.get? b=some o->((h.push f8).push (gu C h.objs.size)).get? b=some o:=λb o e=>bA _ (bA _ e);have hx:((h.push f8).push (gu C h.objs.size)).get? (h.objs.size+1)=some (gu C h.objs.size):=by
  have:=bI (h.push f8) (o:=gu C h.objs.size) rfl;rwa [cY]at this
 have t1:dU (aQ prog w) ((h.push f8).push (gu C h.objs.size)) (gJ (.ref (h.objs.size+1))) ↑C:=(gh hx).andThen .now;have s1:=self.keeps k;have i1:=hi.keeps k;have b1:=(hb (.ref (h.objs.size+1))).keeps k;have ii:dU (aQ prog w) ((h.push f8).push (gu C h.objs.size)) (kG (.ref (h.objs.size+1)) ↑C) true:=by unfold kG;show t1.andThen s1
 have si:dU (aQ prog w) ((h.push f8).push (gu C h.objs.size)) (nr (.ref (h.objs.size+1)) "__init__") (some init):=by unfold nr;show t1.andThen i1
 show A0 (lf (ii.here (s:={(h.push f8).push (gu C h.objs.size),g,d,t,os}) ?_));show A0 (A3 ?_);show A0 (lf (si.here (s:={(h.push f8).push (gu C h.objs.size),g,d,t,os}) ?_));show A3 (A0 (lf (b1.here (s:={(h.push f8).push (gu C h.objs.size),g,d,t,os}) ?_)));show A0 (Cg (Be hq λr s' z=>?_));rcases r with e|(v|_|_|_)<;>first|show z|show z.elim|skip
 obtain⟨rfl,z⟩:=z;show A1 (A1 z)
end
section
variable{M:mF}{A:dX}{E:aL->aW->Prop}{s:aW}{env:oT}
def Hc(M:mF)(A:dX)(E:aL->aW->Prop)(use:Option (aL->kh Unit))(Q:aL->aW->Prop)(acc:aL)(C:aK)(r:lD)(s':aW):Prop:=
 match r,use with
 |.ok _,none=>∃m,s'.heap.Ns C m/\∀h',cP C s'.heap h'->Q acc {s' with heap:=h'}
 |.ok _,some u=>A2 M A (u acc) (λ_ s''=>∃m,s''.heap.Ns C m/\∀h',cP C s''.heap h'->Q .none {s'' with heap:=h'}) E s'
 |.error x,_=>False
theorem Jv{α:Type}[Decidable c]{k:PUnit->kh α}{Q:α->aW->Prop}(h:A2 M A (k ()) Q E s):
  A2 M A (if c then (cQ pos >>= k) else k ()) Q E s:=by
 split
 .show A0 (A5 h)
 .show h
theorem Do{cl:List (bY×aK)}
  (hcl:clausesOf e=g::gs) (hs:∀x,bN g.iter env x=pure x) (hclos:kH scope env=pure cl)
  (hkind:scope.kind=.function) (hnames:∀x∈scope.names,x.2=.local->scope.names.lookup x.1=some .local)
  (h:A2 M A first (λx s₁=>A2 M A (jD x) (λit s₂=>A2 M A newAcc (λacc s₃=>
   A2 M A (iH scope env.globals cl [] env.qual none .none (some env)) (λcenv s₄=>
    Ae M A (.compStart e 0 it acc {cenv with scope:=jR scope env}) (Hc M A E use Q acc cenv.locals) s₄) E s₃) E s₂) E s₁) E s) :
  A2 M A (mZ e scope env pos newAcc false first use) Q E s:=by
 unfold mZ;rw[hclos,hcl];show A0 (A4 h (λx s₁ h₁=>A0 (A5 (A0 (Cc (hs x) (A0 (A3 (A4 h₁ (λit s₂ h₂=>
  Jv (A0 (A4 h₂ (λacc s₃ h₃=>A0 (A1 (A0 (A4 h₃ (λcenv s₄ h₄=>?_) λa a h'=>h')))) λa a h'=>h')))
   λa a h'=>h'))))))) λa a h'=>h')
 dsimp only
 have hv:∀x∈(scope.names.filter λx=>(x.2==.local||x.2==.cell)&&x.1 !=(".0" : bY)).reverse,x.2=.local ->
   jP {cenv with scope:=jR scope env} x.1=some .local:=λx hx hl=>lookup_relabel_local (hnames x (iZ.mp (oi.mp hx)).1 hl)
 have hv':∀x∈(scope.names.filter λx=>(x.2==.local||x.2==.cell)&&x.1 !=(".0" : bY)).reverse.drop 1++(scope.names.filter λx=>(x.2==.local||x.2==.cell)&&x.1 !=(".0" : bY)).reverse.take 1,
   x.2=.local->jP {cenv with scope:=jR scope env} x.1=some .local:=λx hx hl=>by
  apply Y;rcases aZ.mp hx with h1|h1
  .show hv x (mT h1) hl
  .show hv x (mS h1) hl
 show A3 (A0 (Du (A3 (L9 (Be h₄ λr s' hr=>?_) λx=>absurd x.symm (aF _)))))
 induction r using Except.casesOn with
 |ok f=>
  clear e pos newAcc first g gs cl hcl hs hclos hnames h x s₁ h₁ it s₂ h₂ s₃ h₃ s₄ h₄;induction use using Option.casesOn with
  |none=>
   apply Y;obtain⟨m,hn,hr⟩:=hr;show A0 (A3 (lf (q8 (cenv:={cenv with scope:=jR scope env}) hkind _ s' m hv hn λh' m' a hs'=>A1 (hr h' hs'))))
  |some u=>
   show A0 (Cn (A0 (A3 (A4 hr (λa s'' hr'=>?_) λa a h'=>h'))));apply Y;obtain⟨m,hn,hr'⟩:=hr';show A0 (lf (q8 (cenv:={cenv with scope:=jR scope env}) hkind _ s'' m hv' hn λh' m' a hs'=>A1 (hr' h' hs')))
 |error x=>show hr.elim
end
set_option backward.match.sparseCases false
set_option genCtorIdx true in
inductive V where
 |none|bool (b:Bool)|int (i:Int)|str (s:bY)|bytes (b:List UInt8)|ref (a:aK)
 |tup(xs:List V)|list (xs:List V)|ae (m:List (Int×V))|aa (m:List (bY×V))
set_option genCtorIdx true in
inductive AObj where
 |list(xs:List V)|ae (m:List (Int×V))|aa (m:List (bY×V))|c6 (b:List UInt8)|inst (c:aK) (d:Option aK)
set_option genCtorIdx true in
inductive PO where
 |fro(v:V)|frame (m:bY->Option aL)|cell (v:Option aL)|obj (o:jh)|exc (c:aK) (t:Option aK)|tab|code (q:bY)
noncomputable abbrev AH:=aK->Option AObj
noncomputable abbrev PH:=aK->Option PO
def AH.set(H:AH)(a:aK)(o:AObj):AH:=λb=>if b=a then some o else H b
def AH.del(H:AH)(a:aK):AH:=λb=>if b=a then none else H b
def PH.set(P:PH)(a:aK)(o:PO):PH:=λb=>if b=a then some o else P b
noncomputable abbrev pw:hJ:=bR
structure Gl where
 w:gE
 base:j3
 os:m5
 K:i8 (Am w.params) base
 lim:base.NoLimit
noncomputable abbrev Gl.M (g:Gl):mF:=aQ pw g.w
variable{g:Gl}
def VR(P:PH):V->aL->Prop
 |.none,v=>v=.none
 |.bool b,v=>v=.bool b
 |.int i,v=>∃t,v=.int i t
 |.str s,v=>∃t,v=.str s t
 |.bytes b,v=>∃t,v=.bytes b.toArray t
 |.ref a,v=>v=.ref a
 |.tup xs,v=>∃a,v=.ref a/\P a=some (.fro (.tup xs))
 |.list xs,v=>∃a,v=.ref a/\P a=some (.fro (.list xs))
 |.ae m,v=>∃a,v=.ref a/\P a=some (.fro (.ae m))
 |.aa m,v=>∃a,v=.ref a/\P a=some (.fro (.aa m))
class inductive VRs(P:PH):List V->List aL->Prop
 |nil:VRs P [] []
 |cons{v x vs xs}(h:VR P v x)(t:VRs P vs xs):VRs P (v::vs) (x::xs)
class inductive VM(P:PH){κ:Type}:List (κ×V)->List (κ×aL)->Prop
 |nil:VM P [] []
 |cons{k v x m xs}(h:VR P v x)(t:VM P m xs):VM P ((k,v)::m) ((k,x)::xs)
def excA:List aK:=[39,52,64,76,95]
inductive D4(h:j3)(a c:aK)(d:Option aK):Prop
 |plain(hc:c∉excA)(e:h.get? a=some {cls:=.ref c,data:=.plain,dict:=d})
 |exc(hc:c∈excA)(a0 f2 f3 f4 f5:aL)(e:h.get? a=some {cls:=.ref c,data:=.fields #[a0,.none,f2,f3,f4,f5],dict:=d})
inductive IsExc(h:j3)(a c:aK)(t:Option aK):Prop
 |mk{o vs}(e:h.get? a=some o)(hc:o.cls=.ref c)(hd:o.data=.fields vs)(h1:vs[1]?=some (t.elim .none .ref))
def OR(g:Gl)(P:PH)(h:j3)(a:aK):AObj->Prop
 |.list xs=>∃vs,h.PlainList a vs.toArray/\VRs P xs vs
 |.ae m=>∃xs,a≠kB/\h.DictOf (gH pw g.w) a xs/\VM P m xs
 |.aa m=>∃xs,a≠kB/\h.DictOf (strKind pw g.w) a xs/\VM P m xs
 |.c6 b=>h.get? a=some {cls:=.type "bytearray",data:=.bytearray b.toArray 0}
 |.inst c d=>D4 h a c d
def PR(g:Gl)(P:PH)(h:j3)(a:aK):PO->Prop
 |.fro (.tup xs)=>∃vs,rA h a vs.toArray/\VRs P xs vs
 |.fro (.list xs)=>∃vs,h.PlainList a vs.toArray/\VRs P xs vs
 |.fro (.ae m)=>OR g P h a (.ae m)
 |.fro (.aa m)=>OR g P h a (.aa m)
 |.fro _=>False
 |.frame m=>h.Ns a m
 |.cell v=>h.IsCell a v
 |.obj o=>h.get? a=some o
 |.exc c t=>IsExc h a c t
 |.tab=>∃ps:Array aL,h.get? a=some (nM ps)/\nD ps.toList/\∀pos c,j7 pos ps.toList=some c->∃b q,c=.ref b/\P b=some (.code q)
 |.code q=>h.CodeRec ↑a q
structure Rel(g:Gl)(H:AH)(P:PH)(s:aW):Prop where
 base:g.base.StaysIn s.heap
 own:∀a o,H a=some o->g.base.get? a=none/\P a=none/\OR g P s.heap a o
 prv:∀a p,P a=some p->((∀v,p ≠ .fro v)->g.base.get? a=none)/\PR g P s.heap a p
 gens:s.gens = #[]
 os:s.os=g.os
def Fro(P P':PH):Prop:=∀a p,P a=some p->(∃v,p=.fro v)\/(∃q,p=.code q)->P' a=some p
theorem Fro.refl(P:PH):Fro P P:=λa a e a=>e
theorem Fro.trans(x:Fro P P₁)(y:Fro P₁ P₂):Fro P P₂:=λa p e k=>y a p (x a p e k) k
theorem Fro.fro(x:Fro P P')(e:P a=some (.fro v)):P' a=some (.fro v):=x a _ e (.inl ⟨v,rfl⟩)
theorem VR.mono(f:Fro P P'):∀{v:V}{x:aL},VR P v x->VR P' v x:=λ{v x}r=>by
 induction v using V.casesOn with
 |tup=>show{r.choose,r.choose_spec.1,f.fro r.choose_spec.2}
 |list=>show{r.choose,r.choose_spec.1,f.fro r.choose_spec.2}
 |ae=>show{r.choose,r.choose_spec.1,f.fro r.choose_spec.2}
 |aa=>show{r.choose,r.choose_spec.1,f.fro r.choose_spec.2}
 |_=>show r
theorem VRs.mono(f:Fro P P')(r:VRs P v x):VRs P' v x:=by
 induction r with
 |nil=>show .nil
 |cons h _ ih=>show .cons (h.mono f) ih
theorem VM.mono(f:Fro P P'){κ:Type}{m:List (κ×V)}{x:List (κ×aL)}(r:VM P m x):VM P' m x:=by
 induction r with
 |nil=>show .nil
 |cons h _ ih=>show .cons (h.mono f) ih
section
variable{P P':PH}{h h':j3}{a:aK}
theorem D4.at(x:D4 h a c d)(e:h'.get? a=h.get? a):D4 h' a c d:=by
 induction x using D4.casesOn with
 |plain hc q=>show .plain hc (e.trans q)
 |exc hc _ _ _ _ _ q=>show .exc hc _ _ _ _ _ (e.trans q)
theorem OR.at{o:AObj}(f:Fro P P')(e:h'.get? a=h.get? a)(x:OR g P h a o):OR g P' h' a o:=by
 have k:∀o,h.get? a=some o->h'.get? a=some o:=λo q=>e.trans q
 induction o using AObj.casesOn with
 |list=>obtain⟨vs,⟨n,y⟩,r⟩:=x;show{vs,{n,k _ y},r.mono f}
 |ae=>obtain⟨vs,y,z,r⟩:=x;show{vs,y,z.at k,r.mono f}
 |aa=>obtain⟨vs,y,z,r⟩:=x;show{vs,y,z.at k,r.mono f}
 |c6=>show k _ x
 |inst=>show D4.at x e
theorem PR.at(f:Fro P P')(e:h'.get? a=h.get? a)(x:PR g P h a p):PR g P' h' a p:=by
 have k:∀o,h.get? a=some o->h'.get? a=some o:=λo q=>e.trans q
 induction p using PO.casesOn with
 |fro v=>
  induction v using V.casesOn with
  |tup=>obtain⟨vs,⟨o,y,z⟩,r⟩:=x;show{vs,{o,k _ y,z},r.mono f}
  |list=>obtain⟨vs,⟨n,y⟩,r⟩:=x;show{vs,{n,k _ y},r.mono f}
  |ae m=>show OR.at (o:=.ae m) f e x
  |aa m=>show OR.at (o:=.aa m) f e x
  |_=>show x.elim
 |frame m=>obtain⟨o,es,n,y,z⟩:=x;show{o,es,n,k _ y,z}
 |cell=>obtain⟨o,y,z⟩:=x;show{o,k _ y,z}
 |obj=>show k _ x
 |exc=>obtain⟨e,a,b,c⟩:=x;show .mk (k _ e) a b c
 |tab=>obtain⟨ps,y,t,z⟩:=x;show{ps,k _ y,t,λp c m=>(z p c m).elim λb y0=>y0.elim λq y1=>y1.elim λe n=>{b,q,e,f b _ n (.inr ⟨q,rfl⟩)}}
 |code q=>obtain⟨c,o,vs,t,y,z,r⟩:=x;injection y with y;subst y;show{_,o,vs,t,rfl,k _ z,r}
theorem OR.there{o:AObj}(x:OR g P h a o):∃ob,h.get? a=some ob:=by
 apply Y;induction o using AObj.casesOn with
 |list=>obtain⟨vs,⟨n,y⟩,r⟩:=x;show⟨_,y⟩
 |ae=>obtain⟨vs,y,⟨o,b,b,z,b⟩,r⟩:=x;show⟨o,z⟩
 |aa=>obtain⟨vs,y,⟨o,b,b,z,b⟩,r⟩:=x;show⟨o,z⟩
 |c6=>show⟨_,x⟩
 |inst=>rcases x<;>show{_,‹_›}
theorem PR.there(x:PR g P h a p):∃ob,h.get? a=some ob:=by
 apply Y;induction p using PO.casesOn with
 |fro v=>
  induction v using V.casesOn with
  |tup=>obtain⟨vs,⟨o,y,z⟩,r⟩:=x;show⟨o,y⟩
  |list=>obtain⟨vs,⟨n,y⟩,r⟩:=x;show⟨_,y⟩
  |ae m=>show OR.there (g:=g) (P:=P) (o:=.ae m) x
  |aa m=>show OR.there (g:=g) (P:=P) (o:=.aa m) x
  |_=>show x.elim
 |frame m=>obtain⟨o,es,n,y,z⟩:=x;show⟨o,y⟩
 |cell=>obtain⟨o,y,z⟩:=x;show⟨o,y⟩
 |obj=>show⟨_,x⟩
 |exc=>obtain⟨e⟩:=x;show⟨_,e⟩
 |tab=>obtain⟨ps,y,z⟩:=x;show⟨_,y⟩
 |code q=>obtain⟨c,o,vs,t,y,z,r⟩:=x;injection y with y;subst y;show⟨_,z⟩
end
section
variable{H:AH}{P P':PH}{s:aW}{h':j3}{t:Nat}{a:aK}{o o':AObj}{p p':PO}
theorem Rel.cn(q:Rel g H P s)(e:H a=some o)(hs:cP a s.heap h')(n:OR g P h' a o'):Rel g (H.set a o') P {s with heap:=h',toks:=t}:=by
 apply Y;obtain⟨b0,p0,c⟩:=q.own a o e;show{λb ob x=>(hs.2 b λy=>?_).trans (q.base b ob x),λb ob x=>?_,λb pb x=>?_,q.gens,q.os}
 .rw[y,b0]at x;show absurd x.symm (aF _)
 .unfold AH.set at x;split at x
  .next y=>clear e hs c;rw[y];injection x with x;subst x;show⟨b0,p0,n⟩
  .next y=>apply Y;obtain⟨z1,z2,z3⟩:=q.own b ob x;show{z1,z2,z3.at (.refl P) (hs.2 b y)}
 .obtain⟨z1,z2⟩:=q.prv b pb x;show{z1,z2.at (.refl P) (hs.2 b λy=>by rw[y,p0]at x;show absurd x.symm (aF _))}
theorem Rel.bf(q:Rel g H P s)(e:P a=some p)(f:Fro P (P.set a p'))(hs:cP a s.heap h')(n:PR g (P.set a p') h' a p')(hl:∀v,p ≠ .fro v):Rel g H (P.set a p') {s with heap:=h',toks:=t}:=by
 apply Y;obtain⟨b0,p0⟩:=q.prv a p e;show{λb ob x=>(hs.2 b λy=>?_).trans (q.base b ob x),λb ob x=>?_,λb pb x=>?_,q.gens,q.os}
 .rw[y,(b0 hl)]at x;show absurd x.symm (aF _)
 .obtain⟨z1,z2,z3⟩:=q.own b ob x;have y:b≠a:=λy=>by simp only[y,e]at z2;show absurd z2 (aF _)
  show{z1,(if_neg y).trans z2,z3.at f (hs.2 b y)}
 .unfold PH.set at x;split at x
  .next y=>clear e f hs p0;rw[y];injection x with x;subst x;show{λc=>(b0 hl),n}
  .next y=>obtain⟨z1,z2⟩:=q.prv b pb x;show{z1,z2.at f (hs.2 b y)}
theorem Rel.fresh(q:Rel g H P s)(k:s.heap.get? a=none):H a=none/\P a=none/\g.base.get? a=none:=by
 show{?_,?_,?_}
 .induction e:H a using Option.casesOn with
  |none=>rfl
  |some o=>obtain⟨ob,x⟩:=(q.own a o e).2.2.there;rw[k]at x;show nomatch x
 .induction e:P a using Option.casesOn with
  |none=>rfl
  |some o=>obtain⟨ob,x⟩:=(q.prv a o e).2.there;rw[k]at x;show nomatch x
 .induction e:g.base.get? a using Option.casesOn with
  |none=>rfl
  |some o=>rw[q.base a o e]at k;contradiction
theorem Fro.new(e:P a=none):Fro P (P.set a p):=λb pb x c=>(if_neg λy=>by rw[y,e]at x;show absurd x.symm (aF _)).trans x
theorem Fro.turn(e:P a=some p)(n:(∀v,p ≠ .fro v)/\∀c,p ≠ .code c):Fro P (P.set a p'):=λb pb x k=>(if_neg λy=>by
 simp only[y,e]at x;injection x with x;subst x;rcases k with⟨v,k⟩|⟨c,k⟩
 .show n.1 v k
 .show n.2 c k).trans x
theorem Ak{h:j3}(k:h.objs.size<=a):h.get? a=none:=by
 induction e:h.get? a using Option.casesOn with
 |none=>rfl
 |some o=>show absurd (gb e) (g8.mpr k)
theorem Rel.grow(q:Rel g H P s)(k:∀b o,s.heap.get? b=some o->h'.get? b=some o):Rel g H P {s with heap:=h',toks:=t}:=
 ⟨λb o x=>k b o (q.base b o x),λb o x=>(q.own b o x).elim λz1 y0=>y0.elim λz2 z3=>(z3.there).elim λob y=>{z1,z2,z3.at (.refl P) ((k b ob y).trans y.symm)},
  λb o x=>(q.prv b o x).elim λz1 z3=>(z3.there).elim λob y=>{z1,z3.at (.refl P) ((k b ob y).trans y.symm)},q.gens,q.os⟩
theorem Rel.bb(q:Rel g H P s)(k:∀b o,s.heap.get? b=some o->h'.get? b=some o)(e:s.heap.get? a=none)(n:OR g P h' a o):Rel g (H.set a o) P {s with heap:=h',toks:=t}:=by
 apply Y;obtain⟨e1,e2,e3⟩:=q.fresh e;have q':=q.grow (h':=h') (t:=t) k;show{q'.base,λb ob x=>?_,q'.prv,q.gens,q.os};unfold AH.set at x;split at x
 .next y=>clear e e1;rw[y];injection x with x;subst x;show⟨e3,e2,n⟩
 .show q'.own b ob x
theorem Rel.ck(q:Rel g H P s)(k:∀b o,s.heap.get? b=some o->h'.get? b=some o)(e:s.heap.get? a=none)(n:PR g (P.set a p) h' a p):Rel g H (P.set a p) {s with heap:=h',toks:=t}:=by
 apply Y;obtain⟨e1,e2,e3⟩:=q.fresh e;have q':=q.grow (h':=h') (t:=t) k;show{q'.base,λb ob x=>?_,λb pb x=>?_,q.gens,q.os}
 .obtain⟨z1,z2,z3⟩:=q'.own b ob x;show{z1,(if_neg λy=>by simp only[y,e1]at x;show absurd x.symm (aF _)).trans z2,z3.at (.new e2) rfl}
 .unfold PH.set at x;split at x
  .next y=>clear e e1 e2;rw[y];injection x with x;subst x;show{λc=>e3,n}
  .obtain⟨z1,z2⟩:=q'.prv b pb x;show{z1,z2.at (.new e2) rfl}
theorem Rel.toks(q:Rel g H P s)(t:Nat):Rel g H P {s with toks:=t}:={q.base,q.own,q.prv,q.gens,q.os}
theorem Rel.hand(q:Rel g H P s)(e:H a=some o)(n:PR g (P.set a p) s.heap a p):Rel g (H.del a) (P.set a p) s:=by
 apply Y;obtain⟨e3,e2,c⟩:=q.own a o e;show{q.base,λb ob x=>?_,λb pb x=>?_,q.gens,q.os}
 .unfold AH.del at x;apply Y;split at x
  .show absurd x.symm (aF _)
  .next y=>obtain⟨z1,z2,z3⟩:=q.own b ob x;show{z1,(if_neg y).trans z2,z3.at (.new e2) rfl}
 .unfold PH.set at x;clear c;split at x
  .next y=>clear e e2;rw[y];injection x with x;subst x;show{λc=>e3,n}
  .obtain⟨z1,z2⟩:=q.prv b pb x;show{z1,z2.at (.new e2) rfl}
end
end
section
variable{g:Gl}
noncomputable abbrev Loc:=List (bY×aY×Option V)
def nmOk(x:bY):Bool:=!(x==("__debug__" : bY))&&!(x==("__classdict__" : bY))
inductive Cl where
 |val(v:V)(x:aL)|prv (a:aK) (o:jh)
def Cl.holds(P₀ P:PH):Cl->Prop
 |.val v x=>VR P v x
 |.prv a o=>P₀ a=none/\P a=some (.obj o)
def Cl.addr:Cl->Option aK
 |.val _ _=>none
 |.prv a _=>some a
noncomputable abbrev Cl.addrs (t:List Cl):List aK:=t.filterMap Cl.addr
theorem Cl.mono{c:Cl}(h:c.holds P₀ P)(f:Fro P P')(k:∀a o,P a=some (.obj o)->P' a=some (.obj o)):c.holds P₀ P':=by
 induction c using Cl.casesOn with
 |val v x=>show VR.mono f h
 |prv a o=>show{h.1,k a o h.2}
noncomputable abbrev KXT:=aK->AH->Prop
noncomputable abbrev NX:KXT:=λ_ _=>False
structure Fx where
 g:Gl
 n:Nat
 KX:KXT
 cl:List (aK×PO)
 keep:Loc
 co:Bool
 code:Option aK
structure Dx where
 A:dX
 env:oT
 outer:List oT
 P₀:PH
 names:List (bY×aY)
def Frs(P:PH)(l:List oT):Prop:=∀e∈l,e.scope.kind ≠ .module/\∃L m,e.frame=some L/\P L=some (.frame m)
structure AOk(n:Nat)(A:dX):Prop where
 depth:A.depth+n<=900
 units:A.units+20*n<=8000
 quiet:A.handled=none
inductive FrK:Bool->Dx->Prop
 |fn{D}(e:D.A.frames=some (D.env::D.outer))(f:Frs D.P₀ D.outer)(l:D.env.frame=some D.env.locals)(k:D.env.scope.kind=.function):FrK false D
 |co{D}(e:D.A.frames=some D.outer)(f:Frs D.P₀ D.outer):FrK true D
structure DOk(F:Fx)(D:Dx):Prop where
 a:AOk F.n D.A
 fk:FrK F.co D
 cl:∀p∈F.cl,D.P₀ p.1=some p.2
 kind:D.env.scope.kind=.function
 glob:D.env.globals=cV
 blt:D.env.builtins=i4
 nd:(D.names.map (·.1)).Nodup
 kinds:∀p∈D.names,D.env.kindOf p.1=some p.2
 ok:∀p∈D.names,nmOk p.1=true
 lof:D.P₀ D.env.locals=none
 apart:∀x y c,D.env.cells.lookup x=some c->D.env.cells.lookup y=some c->x=y
 celn:F.co=false->∀x c,D.env.cells.lookup x=some c->D.env.kindOf x=some .cell->D.P₀ c=none
 code:∀c,F.code=some c->D.env.code=.ref c
def Mx(P:PH)(m:Loc)(nsm:bY->Option aL):Prop:=∀x v,(x,NameKind.local,some v)∈m->∃c,nsm x=some c/\VR P v c
def Qs(P:PH)(env:oT)(m:Loc):Prop:=∀x k ov,(x,k,ov)∈m->k=.cell\/k=.free->∃c cv,env.cells.lookup x=some c/\P c=some (.cell cv)/\∀v,ov=some v->∃y,cv=some y/\VR P v y
structure Ok(F:Fx)(D:Dx)(m:Loc)(t:List Cl)(H:AH)(P:PH)(s:aW):Prop where
 d:DOk F D
 q:Rel F.g H P s
 sub:∀a p,D.P₀ a=some p->P a=some p
 nm:m.map (λp=>(p.1,p.2.1))=D.names
 loc:∃nsm,P D.env.locals=some (.frame nsm)/\Mx P m nsm/\Mx P F.keep nsm
 cel:Qs P D.env m
 stk:∀c∈t,c.holds D.P₀ P
 ap:(Cl.addrs t).Nodup
inductive Tb(P₀ P:PH)(a c:aK):Option aK->Prop
 |fresh(n:P₀ a=none)(e:P a=some (.exc c none)):Tb P₀ P a c none
 |on {T o ts} {p:Option aK} (n:P₀ a=none) (nT:P₀ T=none) (e:P a=some (.exc c (some T))) (eT:P T=some (.obj o)) (hd:o.data=.fields ts) (h3:ts[3]?=some (p.elim .none λL=>cZ L)):Tb P₀ P a c p
theorem Tb.base(x:Tb P₁ P a c p)(f:∀a p,P₀ a=some p->P₁ a=some p):Tb P₀ P a c p:=by
 have k:∀b,P₁ b=none->P₀ b=none:=λb e=>by
  induction q:P₀ b using Option.casesOn with
  |none=>rfl
  |some o=>rw[f b o q]at e;contradiction
 induction x using Tb.casesOn with
 |fresh n e=>show .fresh (k _ n) e
 |on n nT e eT hd h3=>show .on (k _ n) (k _ nT) e eT hd h3
inductive PV(F:Fx)(D:Dx)(m:Loc)(t:List Cl)(K:V->AH->Prop)(x:aL)(s:aW):Prop
 |mk(v:V)(H:AH)(P:PH)(k:K v H)(ok:Ok F D m (.val v x::t) H P s)
inductive PVs(F:Fx)(D:Dx)(m:Loc)(t:List Cl)(K:List V->AH->Prop)(x:List aL)(s:aW):Prop
 |mk(v:List V)(H:AH)(P:PH)(k:K v H)(r:VRs P v x)(ok:Ok F D m t H P s)
inductive PB(F:Fx)(D:Dx)(m:Loc)(t:List Cl)(K:Bool->AH->Prop)(b:Bool)(s:aW):Prop
 |mk(H:AH)(P:PH)(k:K b H)(ok:Ok F D m t H P s)
inductive PU(F:Fx)(D:Dx)(t:List Cl)(K:Loc->AH->Prop)(s:aW):Prop
 |mk(m:Loc)(H:AH)(P:PH)(k:K m H)(ok:Ok F D m t H P s)
structure Bare(F:Fx)(D:Dx)(P:PH):Prop where
 loc:∃nsm,P D.env.locals=some (.frame nsm)/\Mx P F.keep nsm
 cel:Qs P D.env (D.names.map λp=>(p.1,p.2,none))
 sub:∀a p,D.P₀ a=some p->P a=some p
theorem Mx.mono(l:Mx P m nsm)(f:Fro P P'):Mx P' m nsm:=λx v h=>(l x v h).elim λc y0=>y0.elim λe r=>{c,e,r.mono f}
theorem Qs.mono(l:Qs P env m)(f:∀a p,P a=some p->P' a=some p):Qs P' env m:=λy k ov hm hk=>
 (l y k ov hm hk).elim λc y0=>y0.elim λcv y1=>y1.elim λe1 y2=>y2.elim λe2 e3=>{c,cv,e1,f _ _ e2,λv hv=>(e3 v hv).elim λz y0=>y0.elim λe4 r=>{z,e4,r.mono λa p e b=>f a p e}}
theorem Bare.mono(x:Bare F D P)(f:∀a p,P a=some p->P' a=some p):Bare F D P':=
 {(x.loc).elim λn y0=>y0.elim λe l=>{n,f _ _ e,l.mono λa p e b=>f a p e},x.cel.mono f,λa p e=>f a p (x.sub a p e)}
theorem Ok.bare(x:Ok F D m t H P s):Bare F D P:=
 ⟨(x.loc).elim λn y0=>y0.elim λe y1=>y1.elim λ_ l=>⟨n,e,l⟩,by
  intro y k ov hm hk;rw[<- x.nm,dB]at hm;apply Y;obtain⟨⟨y',k',ov'⟩,h1,h2⟩:=aE.mp hm;clear hm;rcases h2;obtain⟨c,cv,e1,e2,a⟩:=x.cel _ _ ov' h1 hk;show{c,cv,e1,e2,λv e=>absurd e.symm (aF _)},x.sub⟩
inductive PX(F:Fx)(D:Dx)(e:aL)(s:aW):Prop
 |mk(X:aK)(H:AH)(P:PH)(a:aK)(p:Option aK)(k:F.KX X H)(he:e=.ref a)(tb:Tb D.P₀ P a X p)(at_:p=none\/p=D.env.frame)(q:Rel F.g H P s)(b:Bare F D P)
inductive PS(F:Fx)(D:Dx)(t:List Cl)(KR:V->AH->Prop)(KN:Loc->AH->Prop):Flow->aW->Prop
 |next{s}(m:Loc)(H:AH)(P:PH)(k:KN m H)(ok:Ok F D m t H P s):PS F D t KR KN .next s
 |ret{s}(x:aL)(v:V)(H:AH)(P:PH)(k:KR v H)(r:VR P v x)(q:Rel F.g H P s)(sub:∀a p,D.P₀ a=some p->P a=some p):PS F D t KR KN (.ret x) s
inductive PC(F:Fx)(P₀:PH)(K:V->AH->Prop):lD->aW->Prop
 |ok{s}(x:aL)(v:V)(H:AH)(P:PH)(k:K v H)(r:VR P v x)(q:Rel F.g H P s)(sub:∀a p,P₀ a=some p->P a=some p):PC F P₀ K (.ok (.ret x)) s
 |err{s}(X:aK)(H:AH)(P:PH)(a:aK)(k:F.KX X H)(tb:Tb P₀ P a X none)(q:Rel F.g H P s)(sub:∀a p,P₀ a=some p->P a=some p):PC F P₀ K (.error ↑a) s
def WE(F:Fx)(m:Loc)(H:AH)(e:cR)(K:V->AH->Prop):Prop:=
 ∀D t P s,Ok F D m t H P s->A2 F.g.M D.A (ch e D.env) (PV F D m t K) (PX F D) s
def WT(F:Fx)(m:Loc)(H:AH)(e:cR)(K:Bool->AH->Prop):Prop:=
 ∀D t P s,Ok F D m t H P s->A2 F.g.M D.A (fY e D.env (ch e D.env)) (PB F D m t K) (PX F D) s
def WEs(F:Fx)(m:Loc)(H:AH)(es:List cR)(K:List V->AH->Prop):Prop:=
 ∀D t P s pos,Ok F D m t H P s->A2 F.g.M D.A (kW (hH pos (eK es D.env))) (PVs F D m t K) (PX F D) s
def W1(F:Fx)(f:aL->kh aL)(a:V)(H:AH)(K:V->AH->Prop):Prop:=
 ∀D m t P s x,Ok F D m (.val a x::t) H P s->A2 F.g.M D.A (f x) (PV F D m t K) (PX F D) s
def W2(F:Fx)(f:aL->aL->kh aL)(a b:V)(H:AH)(K:V->AH->Prop):Prop:=
 ∀D m t P s x y,Ok F D m (.val b y::.val a x::t) H P s->A2 F.g.M D.A (f x y) (PV F D m t K) (PX F D) s
def U2(F:Fx)(f:aL->aL->kh Unit)(a b:V)(H:AH)(K:AH->Prop):Prop:=
 ∀D m t P s x y,Ok F D m (.val b y::.val a x::t) H P s->A2 F.g.M D.A (f x y) (λ_=>PU F D t (λm' H'=>m'=m/\K H')) (PX F D) s
def U3(F:Fx)(f:aL->aL->aL->kh Unit)(a b c:V)(H:AH)(K:AH->Prop):Prop:=
 ∀D m t P s x y z,Ok F D m (.val c z::.val b y::.val a x::t) H P s->A2 F.g.M D.A (f x y z) (λ_=>PU F D t (λm' H'=>m'=m/\K H')) (PX F D) s
def WC(F:Fx)(f:aL)(vs:List V)(H:AH)(K:V->AH->Prop):Prop:=
 ∀D m t P s xs,Ok F D m t H P s->VRs P vs xs->A2 F.g.M D.A (l5 f xs) (PV F D m t K) (PX F D) s
def WCc(F:Fx)(f:aL)(vs:List V)(H:AH)(K:V->AH->Prop):Prop:=
 ∀A outer P s xs,AOk F.n A->A.frames=some outer->Frs P outer->(∀p∈F.cl,P p.1=some p.2)->Rel F.g H P s->VRs P vs xs->Ae F.g.M A (.call f {xs,[]}) (PC F P K) s
def WS(F:Fx)(KR:V->AH->Prop)(m:Loc)(H:AH)(ss:List gQ)(KN:Loc->AH->Prop):Prop:=
 ∀D t P s,Ok F D m t H P s->A2 F.g.M D.A (kg ss D.env) (PS F D t KR KN) (PX F D) s
def WS1(F:Fx)(KR:V->AH->Prop)(m:Loc)(H:AH)(st:gQ)(KN:Loc->AH->Prop):Prop:=
 ∀D t P s,Ok F D m t H P s->A2 F.g.M D.A (exec st D.env) (PS F D t KR KN) (PX F D) s
section
variable{F:Fx}{D:Dx}{m m':Loc}{t:List Cl}{H H':AH}{P P':PH}{s s':aW}{K:V->AH->Prop}{α:Type}{Q:α->aW->Prop}
theorem WE.seq(h:WE F m H e K)(ok:Ok F D m t H P s)(n:∀x s' v H' P',K v H'->Ok F D m (.val v x::t) H' P' s'->f x s'):A2 F.g.M D.A (ch e D.env) f (PX F D) s:=
 A4 (h D t P s ok) (λx s' z9=>by obtain⟨v,H',P',k,ok'⟩:=z9;show n x s' v H' P' k ok') λa a p=>p
theorem WT.seq{K:Bool->AH->Prop}(h:WT F m H e K)(ok:Ok F D m t H P s)(n:∀b s' H' P',K b H'->Ok F D m t H' P' s'->f b s'):A2 F.g.M D.A (fY e D.env (ch e D.env)) f (PX F D) s:=
 A4 (h D t P s ok) (λx s' z9=>by obtain⟨H',P',k,ok'⟩:=z9;show n x s' H' P' k ok') λa a p=>p
theorem WE.mono(h:WE F m H e K)(n:∀v H,K v H->K' v H):WE F m H e K':=λD t P s ok=>h.seq ok λa a v H' P' k ok'=>{v,H',P',n v H' k,ok'}
theorem Ok.pop{c:Cl}(x:Ok F D m (c::t) H P s):Ok F D m t H P s:=⟨x.d,x.q,x.sub,x.nm,x.loc,x.cel,λa h=>x.stk _ (.tail _ h),by
 have:=x.ap;clear x;induction c using Cl.casesOn with
 |val=>show this
 |prv=>show(bX.mp this).2⟩
theorem Ok.top(x:Ok F D m (.val v y::t) H P s):VR P v y:=x.stk _ (.head _)
theorem Ok.top2(x:Ok F D m (c::.val v y::t) H P s):VR P v y:=x.stk _ (.tail _ (.head _))
theorem Ok.push(x:Ok F D m t H P s)(h:VR P v y):Ok F D m (.val v y::t) H P s:=⟨x.d,x.q,x.sub,x.nm,x.loc,x.cel,λd hd=>by
 rcases aS.mp hd with e8|hd
 .subst e8;show h
 .show x.stk _ hd,x.ap⟩
theorem Ok.on(x:Ok F D m t H P s)(q:Rel F.g H' P' s')(f:∀a p,P a=some p->P' a=some p):Ok F D m t H' P' s':=
 have fr:Fro P P':=λa p e b=>f a p e
 ⟨x.d,q,λa p e=>f a p (x.sub a p e),x.nm,(x.loc).elim λn y0=>y0.elim λe y1=>y1.elim λl l'=>{n,f _ _ e,l.mono fr,l'.mono fr},x.cel.mono f,
  λc hc=>Cl.mono (x.stk c hc) fr λa o e=>f a _ e,x.ap⟩
theorem Ok.same(x:Ok F D m t H P s)(q:Rel F.g H' P s'):Ok F D m t H' P s':=x.on q λa a e=>e
theorem Ok.toks(x:Ok F D m t H P s)(n:Nat):Ok F D m t H P {s with toks:=n}:=x.same (x.q.toks n)
theorem PH.new{a:aK}{p:PO}(e:P a=none):∀b q,P b=some q->(P.set a p) b=some q:=λb q x=>(if_neg λy=>by simp only[y,e]at x;show absurd x.symm (aF _)).trans x
theorem Ok.val(x:Ok F D m t H P s){v:V}(k:K v H)(r:VR P v y):PV F D m t K y s:={v,H,P,k,x.push r}
theorem Ok.int(x:Ok F D m t H P s){i:Int}{tk n:Nat}(k:K (.int i) H):PV F D m t K (.int i tk) {s with toks:=n}:=(x.toks n).val k ⟨tk,rfl⟩
theorem Ok.bool(x:Ok F D m t H P s)(k:K (.bool b) H):PV F D m t K (.bool b) s:=x.val k rfl
theorem FrK.head(d:FrK false D)(sub:∀a p,D.P₀ a=some p->P a=some p)(h:∃n,P D.env.locals=some (.frame n)):D.A.frames=some (D.env::D.outer)/\Frs P (D.env::D.outer)/\D.env.frame=some D.env.locals:=by
 apply Y;cases d with
 |fn e f l k=>
  show{e,λb hb=>?_,l};apply Y;rcases aS.mp hb with e8|hb
  .subst e8;obtain⟨n,h⟩:=h;show{by rw[k];decide,_,n,l,h}
  .obtain⟨k,L,m,e1,e2⟩:=f b hb;show{k,L,m,e1,sub _ _ e2}
theorem FrK.frs(d:FrK c D)(sub:∀a p,D.P₀ a=some p->P a=some p)(h:∃n,P D.env.locals=some (.frame n)):∃l,D.A.frames=some l/\Frs P l:=by
 apply Y;induction d using FrK.casesOn with
 |fn e f l k=>obtain⟨a,b,g⟩:=(FrK.fn e f l k).head sub h;show⟨_,a,b⟩
 |co e f=>show{_,e,λb hb=>(f b hb).elim λk y0=>y0.elim λL y1=>y1.elim λm y2=>y2.elim λe1 e2=>{k,L,m,e1,sub _ _ e2}}
theorem WCc.at{xs:List aL}{l:List (aK×PO)}(h:WCc {F with cl:=l++F.cl} f vs H K)(ok:Ok F D m t H P s)(hl:∀p∈l,P p.1=some p.2)(r:VRs P vs xs):A2 F.g.M D.A (l5 f xs) (PV F D m t K) (PX F D) s:=by
 apply Y;obtain⟨b,fr,fs⟩:=ok.d.fk.frs ok.sub ((ok.loc).elim λn y0=>y0.elim λe _=>⟨n,e⟩);show Cg (Be (h D.A _ P s xs ok.d.a fr fs (λp hp=>(aZ.mp hp).elim (hl p) λhp=>ok.sub _ _ (ok.d.cl p hp)) ok.q r) λr' s' p=>?_)
 induction p using PC.casesOn with
 |ok x v H' P' k r q sub=>show(ok.on q sub).val k r
 |err X H' P' a k tb q sub=>show{X,H',P',a,none,k,rfl,tb.base ok.sub,.inl rfl,q,ok.bare.mono sub}
theorem WCc.wc(h:WCc F f vs H K):WC F f vs H K:=λa a a a a a ok r=>h.at (l:=[]) ok (λa h=>absurd h aD) r
end
section
variable{F:Fx}{KR:V->AH->Prop}{KN:Loc->AH->Prop}{m:Loc}{H:AH}
theorem WS.nil(k:KN m H):WS F KR m H [] KN:=λD t P s ok=>Db (.next m H P k ok)
theorem WS.cons{st:gQ}(h:WS1 F KR m H st (λm' H'=>WS F KR m' H' ss KN)):WS F KR m H (st::ss) KN:=by
 intro D t P s ok;apply @A2 _ _ _ _ Y _ _;show Ac (h D t P s ok) λfl s₁ p=>?_
 cases p with
 |next m' H' P' k ok'=>show k D t P' s₁ ok'
 |ret x v H' P' k r q sub=>show A1 (.ret x v H' P' k r q sub)
theorem PS.mono{t:List Cl}(p:PS F D t KR KN fl s)(n:∀m H,KN m H->KN' m H):PS F D t KR KN' fl s:=by
 induction p using PS.casesOn with
 |next m' H' P' k ok'=>show .next m' H' P' (n _ _ k) ok'
 |ret x v H' P' k r q sub=>show .ret x v H' P' k r q sub
theorem WS.mono(h:WS F KR m H ss KN)(n:∀m H,KN m H->KN' m H):WS F KR m H ss KN':=λD t P s ok=>A4 (h D t P s ok) (λa a p=>p.mono n) λa a p=>p
end
class inductive SetAt:Loc->bY->aY->V->Loc->Prop
 |here{x k ov v m}:SetAt ((x,k,ov)::m) x k v ((x,k,some v)::m)
 |there{y x k v m m'}:SetAt m x k v m'->SetAt (y::m) x k v (y::m')
theorem SetAt.names(h:SetAt m x k v m'):m'.map (λp=>(p.1,p.2.1))=m.map (λp=>(p.1,p.2.1)):=by
 induction h with
 |here=>rfl
 |there _ ih=>show congrArg (cW _) ih
theorem SetAt.mem(h:SetAt m x k v m'):∃ov,(x,k,ov)∈m:=by
 induction h with
 |here=>show{_,.head _}
 |there _ ih=>show ih.imp λa h=>.tail _ h
theorem SetAt.at{x:bY}{v:V}(h:SetAt m x k v m')(hn:(m.map (·.1)).Nodup):∀y j ov,(y,j,ov)∈m'->(y=x/\j=k/\ov=some v)\/(y≠x/\(y,j,ov)∈m):=by
 induction h with
 |here=>
  intro y j ov hm;rcases aS.mp hm with e8|e
  .injection e8 with e8 e7;injection e7 with e7 e6;subst e8;subst e7;subst e6;show .inl ⟨rfl,rfl,rfl⟩
  .show .inr {λq=>(bX.mp hn).1 (q▸aE.mpr ⟨_,e,rfl⟩),.tail _ e}
 |@there z x k v m m' h ih=>
  obtain⟨h1,h2⟩:=bX.mp hn;intro y j ov hm;clear hn;rcases aS.mp hm with e8|e
  .subst e8;show .inr {λq=>(h.mem).elim λov' hx=>h1 (q▸aE.mpr ⟨_,hx,rfl⟩),.head _}
  .show(ih h2 y j ov e).imp id λz9=>z9.elim λq r=>{q,.tail _ r}
variable{F:Fx}{D:Dx}{A:dX}{m m':Loc}{t:List Cl}{H H':AH}{P P':PH}{s s':aW}{E:aL->aW->Prop}
theorem Ok.nd(ok:Ok F D m t H P s):(m.map (·.1)).Nodup:=by
 have e:m.map (·.1)=D.names.map (·.1):=by simp only[<- ok.nm,dB];rfl
 simp only[e];show ok.d.nd
theorem Ok.kd(ok:Ok F D m t H P s)(h:(x,k,ov)∈m):D.env.kindOf x=some k/\nmOk x=true:=by
 have:(x,k)∈D.names:=by rw[<- ok.nm];show bZ (f:=λp:bY×aY×Option V=>(p.1,p.2.1)) h
 show{ok.d.kinds _ this,ok.d.ok _ this}
theorem Ok.storeL(ok:Ok F D m (.val v y::t) H P s)(hs:SetAt m x .local v m')(hx:∀k w,(x,k,w)∉F.keep)(h:∀P' s',Ok F D m' t H P' s'->Q () s'):A2 F.g.M A (lx D.env x y) Q E s:=by
 obtain⟨ov,hm⟩:=hs.mem;obtain⟨nsm,hn,hl,hl'⟩:=ok.loc;show lf <| wpAny_storeName_local (ok.kd hm).1 (ok.q.prv _ _ hn).2 (λh' hn' sb=>h (P.set D.env.locals (.frame λz=>if z=x then some y else nsm z)) _ ?_) (by rw[ok.d.kind];rfl);apply @Ok _ _ _ _ _ Y _;have fr:Fro P (P.set D.env.locals (.frame λz=>if z=x then some y else nsm z)):=.turn hn {λf q=>(by contradiction),λf q=>(by contradiction)};have ne:∀b p,P b=some p->(∀n,p ≠ .frame n)->(P.set D.env.locals (.frame λz=>if z=x then some y else nsm z)) b=some p:=λb p e k=>(if_neg λq=>by
  subst q;obtain rfl:=bL (bP (eG hn) e);show k _ rfl).trans e
 show{ok.d,ok.q.bf hn fr sb hn' (λc h=>PO.noConfusion h),λa p e=>(if_neg λq=>?_).trans (ok.sub a p e),hs.names.trans ok.nm,{_,if_pos rfl,λz w hm'=>?_,λz w hm'=>(hl' z w hm').elim λc y0=>y0.elim λe r=>{c,(if_neg λq=>hx _ _ (q▸hm')).trans e,r.mono fr}},λz k ov hm' hk=>?_,λc hc=>Cl.mono (ok.pop.stk c hc) fr λa o e=>ne a _ e λf q=>(by contradiction),ok.ap}
 .rw[q,ok.d.lof]at e;show absurd e.symm (aF _)
 .apply Y;rcases hs.at ok.nd z _ _ hm' with⟨rfl,_,e⟩|⟨ne,hm'⟩
  .clear Q h ov hn hl hl' h' sb hm' hs hx hm hn' ne;injection e with e;subst e;show{y,if_pos rfl,ok.top.mono fr}
  .obtain⟨c,e,r⟩:=hl z w hm';show{c,(if_neg ne).trans e,r.mono fr}
 .apply Y;rcases hs.at ok.nd z _ _ hm' with⟨_,rfl,_⟩|⟨_,hm'⟩
  .rcases hk with q|q<;>show absurd q (dte tt)
  .obtain⟨c,cv,e1,e2,e3⟩:=ok.cel z k ov hm' hk;show{c,cv,e1,ne _ _ e2 λf q=>(by contradiction),λv hv=>(e3 v hv).elim λw y0=>y0.elim λe r=>{w,e,r.mono fr}}
theorem Ok.storeC(ok:Ok F D m (.val v y::t) H P s)(hco:F.co=false)(hs:SetAt m x .cell v m')(hx:∀k w,(x,k,w)∉F.keep)(h:∀P' s',Ok F D m' t H P' s'->Q () s'):A2 F.g.M A (lx D.env x y) Q E s:=by
 obtain⟨ov,hm⟩:=hs.mem;obtain⟨nsm,hn,hl,hl'⟩:=ok.loc;obtain⟨c,cv,e1,e2,_⟩:=ok.cel x _ _ hm (.inl rfl);show lf <| wpAny_storeName_cell ok.d.kind (ok.kd hm).1 e1 (ok.q.prv _ _ e2).2 λh' hc' sb=>h (P.set c (.cell (some y))) _ ?_;have fr:Fro P (P.set c (.cell (some y))):=.turn e2 {λf q=>(by contradiction),λf q=>(by contradiction)};have ne:∀b p,P b=some p->(∀n,p ≠ .cell n)->(P.set c (.cell (some y))) b=some p:=λb p e k=>(if_neg λq=>by
  clear y ok x hco hs hx Q h hm nsm hn hl hl' e1 h' hc' sb fr;subst q;obtain rfl:=bL (bP (eG e2) e);show k _ rfl).trans e
 show{ok.d,ok.q.bf e2 fr sb hc' (λc h=>PO.noConfusion h),λa p e=>(if_neg λq=>?_).trans (ok.sub a p e),hs.names.trans ok.nm,{nsm,ne _ _ hn λf q=>(by contradiction),λz w hm'=>?_,hl'.mono fr},λz k ov hm' hk=>?_,λc hc=>Cl.mono (ok.pop.stk c hc) fr λa o e=>ne a _ e λf q=>(by contradiction),ok.ap}
 .rw[q,ok.d.celn hco x c e1 (ok.kd hm).1]at e;show absurd e.symm (aF _)
 .apply Y;rcases hs.at ok.nd z _ _ hm' with⟨_,q,_⟩|⟨_,hm'⟩
  .show absurd q (dte tt)
  .obtain⟨c,e,r⟩:=hl z w hm';show{c,e,r.mono fr}
 .clear hco hx Q h hm nsm hn hl hl' e2 h' hc' sb ne;apply Y;rcases hs.at ok.nd z _ _ hm' with⟨rfl,rfl,rfl⟩|⟨nz,hm'⟩
  .show{c,_,e1,if_pos rfl,λw e=>by injection e with e;subst e;show{y,rfl,ok.top.mono fr}}
  .obtain⟨c',cv,f1,f2,f3⟩:=ok.cel z k ov hm' hk;show{c',cv,f1,(if_neg λ(q:c'=c)=>nz (ok.d.apart z x c' f1 (q▸e1))).trans f2,λv hv=>(f3 v hv).elim λw y0=>y0.elim λe r=>{w,e,r.mono fr}}
theorem Ok.store(ok:Ok F D m (.val v y::t) H P s)(hs:SetAt m x k v m')(hk:k=.local\/(k=.cell/\F.co=false))(hx:∀k w,(x,k,w)∉F.keep)(h:∀P' s',Ok F D m' t H P' s'->Q () s'):A2 F.g.M A (lx D.env x y) Q E s:=by
 apply Y;rcases hk with rfl|⟨rfl,hco⟩
 .show ok.storeL hs hx h
 .show ok.storeC hco hs hx h
end
section
variable{g:Gl}{M:mF}{A:dX}{E:aL->aW->Prop}{env:oT}{outer:List oT}{L a c:aK}{p p':Option aK}{P₀ P₁ P:PH}{H:AH}{s:aW}{Q:Unit->aW->Prop}
theorem Rel.slots(q:Rel g H P s)(hs:Heap.SlotsOnly S s.heap h')(hS:∀b∈S,∃m,P b=some (.frame m)):Rel g H P {s with heap:=h'}:=by
 have k:∀b,(∀m,P b≠some (.frame m))->h'.get? b=s.heap.get? b:=λb n=>hs.2.1 b λm=>(hS b m).elim λx e=>n x e;show{λb o e=>(k b λm y=>?_).trans (q.base b o e),λb o e=>?_,λb o e=>?_,q.gens,q.os}
 .rw[(q.prv b _ y).1 λa h=>nomatch h]at e;show absurd e.symm (aF _)
 .obtain⟨z1,z2,z3⟩:=q.own b o e;show{z1,z2,z3.at (.refl P) (k b λm y=>by rw[z2]at y;contradiction)}
 .obtain⟨z1,z2⟩:=q.prv b o e;show{z1,?_};by_cases y:∃m,o=.frame m
  .apply @PR _ _ Y _ _;clear e z1;apply Y;obtain⟨m,rfl⟩:=y;obtain⟨ob,es,n,y,z⟩:=z2;obtain⟨sl,y'⟩:=hs.2.2 b ob y;show⟨_,es,n,y',z⟩
  .show z2.at (.refl P) (k b λm e'=>y {m,bL (e.symm.trans e')})
theorem Qt{h B:j3}:∀{l:List oT},Frs P l->(∀b m,P b=some (.frame m)->B.get? b=none/\h.Ns b m)->h.FunFrames B l:=by
 intro l9
 induction l9 with
 |nil=>intro z1 z2;show trivial
 |cons e r ih =>
  intro f hb;apply Y;obtain⟨k,L,m,e1,e2⟩:=f e (.head _);obtain⟨b0,o,es,n,e3,e4,a⟩:=hb L m e2;show{k,{L,o,e1,b0,e3,λvs q=>by rw[e4]at q;contradiction},ih (λe he=>f e (.tail _ he)) hb}
theorem J5(f:Frs P l):∀b∈l.filterMap (·.frame),∃m,P b=some (.frame m):=λb hb=>by
 obtain⟨e,he,hf⟩:=cX.mp hb;obtain⟨a,L,m,e1,e2⟩:=f e he;obtain rfl:=bL (bP (eG hf) e1);show⟨m,e2⟩
theorem Rel.field(q:Rel g H P s)(e:P T=some (.obj o))(hd:o.data=.fields ts)(hi:i<ts.size)
  (h:∀h',Rel g H (P.set T (.obj (o.mapFields (·.setIfInBounds i v)))) {s with heap:=h'}->Q () {s with heap:=h'}):aM M A (setField ↑T i v) Q E s:=by
 show gW ((q.prv T _ e).2) hd hi (h _ ?_);show q.bf (t:=s.toks) e (.turn e {λa q=>(nomatch q),λa q=>(by contradiction)}) (cJ ..) ?_ λc h=>PO.noConfusion h;show cM _ ((q.prv T _ e).2) (gS (eO hd _))
theorem Fro.obj(e:P T=some (.obj o)):Fro P (P.set T x):=.turn e {λa q=>(by contradiction),λa q=>(by contradiction)}
theorem Fro.exc(e:P a=some (.exc c t)):Fro P (P.set a x):=.turn e {λb q=>(by contradiction),λb q=>(by contradiction)}
noncomputable abbrev Sub (P P':PH):Prop:=∀a p,P a=some p->P' a=some p
theorem Sub.set(h:Sub P₀ P)(n:P₀ a=none):Sub P₀ (P.set a x):=λb p e=>(if_neg λy=>by simp only[y,n]at e;show absurd e.symm (aF _)).trans (h b p e)
structure Ks(P₀ P P':PH):Prop where
 sub:Sub P₀ P'
 keep:∀b p,P b=some p->(∀o,p ≠ .obj o)->(∀c t,p ≠ .exc c t)->P' b=some p
theorem Ks.set(k:Ks P₀ P P₁)(n:P₀ a=none)(e:P₁ a=some x)(hx:(∃o,x=.obj o)\/∃c t,x=.exc c t):Ks P₀ P (P₁.set a q):=⟨k.sub.set n,λb p e' h1 h2=>(if_neg λy=>by
 have:=k.keep b p e' h1 h2;simp only[y,e]at this;injection this with this;subst this;rcases hx with⟨o,hx⟩|⟨c,t,hx⟩
 .show h1 o hx
 .show h2 c t hx).trans (k.keep b p e' h1 h2)⟩
theorem Ks.new(k:Ks P₀ P P₁)(e:P₁ a=none):Ks P₀ P (P₁.set a q):={λb p y=>PH.new e b p (k.sub b p y),λb p e' h1 h2=>PH.new e b p (k.keep b p e' h1 h2)}
theorem Tb.de(n:P₀ a=none)(nT:P₀ T=none)(e:P a=some (.exc c (some T)))(eT:P T=some (.obj o))(hd:o.data=.fields ts)(h3:3<ts.size)(q:Rel g H P s)(sb:Ks P₀ P₁ P)
  (h:∀P' h',Tb P₀ P' a c p'->Rel g H P' {s with heap:=h'}->Ks P₀ P₁ P'->Q () {s with heap:=h'}):aM M A (nu ↑a p') Q E s:=by
 apply Y;obtain⟨b,⟨e1,b,e2,e3⟩⟩:=q.prv a _ e;show ac (wpAny_field (x:=.ref T) e1 e2 e3 ?_);show q.field eT hd h3 λh' q'=>h _ h' (.on n nT ((if_neg (λy=>by simp only[y,eT]at e;show nomatch e)).trans e) (if_pos rfl) (eO hd _) (by simp[h3])) q' (sb.set nT eT (.inl ⟨_,rfl⟩))
theorem Tb.note(hfr:A.frames=some (env::outer))(fs:Frs P (env::outer))(hf:env.frame=some L)(tb:Tb P₀ P a c p)(hp:p=none\/p=some L)(q:Rel g H P s)(sb:Ks P₀ P₁ P)
  (h:∀P' h',Tb P₀ P' a c (some L)->Rel g H P' {s with heap:=h'}->Ks P₀ P₁ P'->Q () {s with heap:=h'}):aM M A (hY ↑a env) Q E s:=by
 have entry:∀(P:PH)(s:aW)(t:Option aK)(hd:aL)(b:Bool)(Q:Unit->aW->Prop),Frs P (env::outer)->P₀ a=none->P a=some (.exc c t)->Rel g H P s->Ks P₀ P₁ P->(∀P' h',Tb P₀ P' a c (some L)->Rel g H P' {s with heap:=h'}->Ks P₀ P₁ P'->Q () {s with heap:=h'}) ->
   aM M A (do let x <- frameOf env;let pl <- entryPlaceOf L b;let y <- rI hd x .none (cZ L) .none pl;setField ↑a 1 y) Q E s:=by
  intro P s t hd b Q fs n e q sb h;show ac (wpAny_frameOf_fun hfr (Qt fs (λb m y=>{rfl,(q.prv b _ y).2}:∀b m,P b=some (.frame m)->(Heap.mk #[] {}).get? b=none/\s.heap.Ns b m)) hf λh₁ hs=>?_);show ac (wpAny_entryPlaceOf λpl hpl=>?_);show ac (iU ?_ (hpl.sizeOk5 _ _ _ _ _));apply Y;have pT:=((q.slots hs (J5 fs)).fresh (Ak (bC _))).2.1;have q2:=(q.slots hs (J5 fs)).ck (t:=s.toks) (p:=.obj {cls:=.type "traceback",dict:=none,data:=.fields ([hd,↑L,.none,cZ L,.none]++(if pl.isEmpty then bO 6 .none else pl)).toArray})
   (λb o e=>bA _ e) (Ak (bC _)) (bI h₁ rfl)
  have e2:=PH.new (p:=.obj {cls:=.type "traceback",dict:=none,data:=.fields ([hd,↑L,.none,cZ L,.none]++(if pl.isEmpty then bO 6 .none else pl)).toArray}) pT _ _ e;obtain⟨d,⟨g1,g2,g3,g4⟩⟩:=q2.prv a _ e2;show gW g1 g3 (cC.mp g4).1 (h _ _ (.on n ?_ (if_pos rfl) ((if_neg (λy=>by simp only[y,e]at pT;contradiction)).trans (if_pos rfl)) rfl rfl) (q2.bf (t:=s.toks) e2 (.exc e2) (cJ ..) ?_ λc h=>PO.noConfusion h) ((sb.new pT).set n e2 (.inr ⟨_,_,rfl⟩)))
  .induction y:P₀ h₁.objs.size using Option.casesOn with
   |none=>rfl
   |some o=>rw[sb.sub _ _ y]at pT;show absurd pT (aF _)
  .show .mk (cM _ g1 (gS (eO g3 _))) ((o9 _ _).trans g2) (eO g3 _) (by simp[(cC.mp g4).1])
 unfold hY;rw[hf]
 induction tb using Tb.casesOn with
 |fresh n e=>
  obtain⟨d,⟨g1,g2,g3,g4⟩⟩:=q.prv a _ e;show ac (wpAny_field g1 g3 g4 ?_);show entry P s _ _ _ _ fs n e q sb h
 |@on T o ts _ n nT e eT hd h3=>
  obtain⟨d,⟨g1,g2,g3,g4⟩⟩:=q.prv a _ e;show ac (wpAny_field (x:=.ref T) g1 g3 g4 ?_);apply Y;rcases hp with rfl|rfl
  .show ac (wpAny_field (x:=.none) ((q.prv T _ eT).2) hd h3 ?_);show ac (q.field eT hd (cC.mp h3).1 λh' q'=>?_);show entry _ _ _ _ _ _ (λx hx=>(fs x hx).elim λk y0=>y0.elim λL y1=>y1.elim λm y2=>y2.elim λe1 e2=>{k,L,m,e1,(if_neg λy=>by simp only[y,eT]at e2;show nomatch e2).trans e2}:Frs (P.set T (.obj (o.mapFields (·.setIfInBounds 3 .none)))) (env::outer)) n ((if_neg (λy=>by simp only[y,eT]at e;show nomatch e)).trans e) q' (sb.set nT eT (.inl ⟨_,rfl⟩)) h
  .show ac (wpAny_field (x:=cZ L) ((q.prv T _ eT).2) hd h3 ?_);rw[if_pos (by simp)];show aB (h P s.heap (.on n nT e eT hd h3) q sb)
theorem Tb.fg(hfr:A.frames=some (env::outer))(fs:Frs P (env::outer))(hf:env.frame=some L)(tb:Tb P₀ P a c p)(hp:p=none\/p=some L)(q:Rel g H P s)(sb:Ks P₀ P₁ P)
  (h:∀P' h',Tb P₀ P' a c none->Rel g H P' {s with heap:=h'}->Ks P₀ P₁ P'->Q () {s with heap:=h'}):aM M A (leaving env ↑a) Q E s:=by
 show ac (tb.note hfr fs hf hp q sb λP' h' tb' q' sb'=>?_);apply Y;cases tb' with
 |on n nT e eT hd h3=>show Tb.de n nT e eT hd (cC.mp h3).1 q' sb' h
theorem Ks.refl(sb:Sub P₀ P):Ks P₀ P P:={sb,λa a e a a=>e}
theorem Ks.fro(k:Ks P₀ P P'):Fro P P':=λb p e h=>k.keep b p e (λo y=>by subst y;rcases h with⟨a,h⟩|⟨a,h⟩<;>show by contradiction) λc t y=>by subst y;rcases h with⟨a,h⟩|⟨a,h⟩<;>show by contradiction
theorem Bare.ks(x:Bare F D P)(k:Ks D.P₀ P P'):Bare F D P':=
 {(x.loc).elim λn y0=>y0.elim λe l=>{n,k.keep _ _ e (λa q=>by contradiction) (λa a q=>(by contradiction)),l.mono k.fro},λy j ov hm hk=>(x.cel y j ov hm hk).elim λc y0=>y0.elim λcv y1=>y1.elim λe1 y2=>y2.elim λe2 e3=>{c,cv,e1,k.keep _ _ e2 (λa q=>by contradiction) (λa a q=>(by contradiction)),λv hv=>(e3 v hv).elim λw y0=>y0.elim λe r=>{w,e,r.mono k.fro}},k.sub}
theorem PX.passes(d:DOk F D)(hco:F.co=false):PassesOwn F.g.M D.A D.env (PX F D):=by
 rintro e s ⟨X,H,P,a,p,k,rfl,tb,hp,q,b⟩;apply Y;obtain⟨fr,fs,loc⟩:=(hco▸d.fk).head b.sub ((b.loc).elim λn y0=>y0.elim λe _=>⟨n,e⟩);show tb.note fr fs loc (loc▸hp) q (.refl b.sub) λP' h' tb' q' ks=>?_;unfold iI;rw[loc];apply Y;cases tb' with
 |@on T o ts _ n nT e eT hd h3=>
  obtain⟨c,⟨e1,c,e2,e3⟩⟩:=q'.prv a _ e;show ac (wpAny_field (x:=.ref T) e1 e2 e3 ?_);show Tb.de (s:={s with heap:=h'}) n nT e eT hd (cC.mp h3).1 q' ks λP'' h'' tb'' q'' ks'=>{X,H,P'',a,some D.env.locals,k,rfl,tb'',.inr loc.symm,q'',b.ks ks'}
end
section
set_option backward.match.sparseCases false
def vx(n:Nat):(Nat->aL)->List aL:=n.rec (λ_=>[]) λ_ r x=>x 0::r λi=>x (i+1)
theorem vx_of(xs:List aL):vx xs.length (λi=>xs.getD i .none)=xs:=by
 induction xs with
 |nil=>rfl
 |cons a l ih=>show congrArg (a::·) ih
def Fv:List bY->Bool
 |[]=>true
 |x::r=>!(r.any (·==x))&&Fv r
theorem Ef:∀{l:List bY},Fv l=true->l.Nodup:=by
 intro l9
 induction l9 with
 |nil=>intro z1;show ny
 |cons x r ih =>
  intro h;obtain⟨h1,h2⟩:=aT.mp h;simp only[gq]at h1;show bX.mpr {λhm=>iz.mp h1 x hm (beq_self_eq_true x),ih h2}
def scOk(as:List bY)(s:nE):Bool:=
 decide (s.kind=.function)&&(!s.isCoroutine&&(!s.isGenerator&&(Fv (s.names.map (·.1))&&((s.names.map (·.1)).take as.length==as&&((s.names.take as.length).all (λp=>match p.2 with|.local=>true|.cell=>true|_=>false) &&
 (s.names.all (λp=>match p.2 with|.free=>false|_=>true)&&s.names.all λp=>nmOk p.1))))))
structure Fn(fa:aK)(as:List bY)(body:List gQ)(sc:nE):Prop where
 obj:∀P,∃fd,(Am P).lookup fa=some {cls:=.type "function",data:=.func fd}/\fd.body=.stmts body/\fd.scope=sc/\fd.closure=[]/\fd.globals=cV/\fd.builtins=i4/\codeIn (Am P) fd.code fd.qualname=true /\
  ∀x S,peek (Am P) S (l0 fd {vx as.length x,[]})=some (as.zip (vx as.length x))
 ok:scOk as sc=true
def mk0:List (bY×aY)->List V->Loc
 |[],_=>[]
 |(x,k)::r,[]=>(x,k,none)::mk0 r []
 |(x,k)::r,v::vs=>(x,k,some v)::mk0 r vs
theorem Hx:∀(l:List (bY×aY))(vs:List V),(mk0 l vs).map (λp=>(p.1,p.2.1))=l
 |[],_=>rfl
 |(x,k)::r,[]=>congrArg (cW _) (Hx r [])
 |(x,k)::r,v::vs=>congrArg (cW _) (Hx r vs)
theorem Qu{l:List (bY×aY)}(h:(x,k,ov)∈mk0 l []):(x,k)∈l/\ov=none:=by
 induction l with
 |nil=>show absurd h aD
 |cons p r ih=>
  rcases aS.mp h with e8|e
  .injection e8 with e8 e7;injection e7 with e7 e6;rw[e8,e7];show{.head _,e6}
  .show{.tail _ (ih e).1,(ih e).2}
theorem Lg{x:bY}{k:aY}{ov:Option V}{v:V}{r:Loc}:∀(pre:Loc),SetAt (pre++(x,k,ov)::r) x k v (pre++(x,k,some v)::r)
 |[]=>.here
 |_::p=>.there (Lg p)
def Cl.vals:List V->List aL->List Cl
 |v::vs,x::xs=>.val v x::Cl.vals vs xs
 |_,_=>[]
theorem VRs.cls{vs:List V}{xs:List aL}(r:VRs P vs xs){P₀:PH}:∀c∈Cl.vals vs xs,c.holds P₀ P:=by
 induction r with
 |nil=>show λa h=>absurd h aD
 |cons h _ ih=>
  intro c hc;rcases aS.mp hc with e8|hc
  .subst e8;show h
  .show ih c hc
theorem Cl.b7:∀{vs:List V}{xs:List aL}{t:List Cl},Cl.addrs (Cl.vals vs xs++t)=Cl.addrs t
 |[],_,_=>by delta Cl.vals;rfl
 |_::_,[],_=>rfl
 |_::vs,_::xs,t=>Cl.b7 (vs:=vs) (xs:=xs)
theorem VRs.len(r:VRs P vs xs):vs.length=xs.length:=by
 induction r with
 |nil=>rfl
 |cons _ _ ih=>show congrArg k8 ih
section
variable{F:Fx}{D:Dx}{A:dX}{E:aL->aW->Prop}{H:AH}
theorem Tq(hkp:F.keep=[])(hco:F.co=false)(f:bY×aL->PUnit->kh (ForInStep PUnit))(hf:∀n v u,f (n,v) u=(do lx D.env n v;pure (.yield ⟨⟩)))(Q:PUnit->aW->Prop)(ps:List bY):
  ∀(xs:List aL)(vs:List V)(names:List (bY×aY))(pre:Loc)(P:PH)(s:aW),(names.map (·.1)).take ps.length=ps->(∀p∈names.take ps.length,p.2=.local\/p.2=.cell) ->
   ps.length=vs.length->vs.length=xs.length->Ok F D (pre++mk0 names []) (Cl.vals vs xs) H P s->(∀P' s',Ok F D (pre++mk0 names vs) [] H P' s'->Q ⟨⟩ s')->A2 F.g.M A (forIn (ps.zip xs) ⟨⟩ f) Q E s:=by
 induction ps with
 |nil=>
  intro xs vs names pre P s a a hl hl' ok h;apply Y;induction vs with
  |nil=>show A1 (h P s ok)
  |cons=>contradiction
 |cons p ps ih=>
  intro xs vs names pre P s e hk hl hl' ok h
  cases vs with
  |nil=>contradiction
  |cons v vs=>
  cases xs with
  |nil=>contradiction
  |cons x xs=>
  induction names with
  |nil=>contradiction
  |cons yk r=>
  obtain⟨e9,e'⟩:=ib e;rw[<- e9];rw[List.zip_cons_cons,jd,hf];show A0 (A0 (ok.store (m':=pre++(yk.1,yk.2,some v)::mk0 r []) (Lg pre) ((hk yk (.head _)).imp id λe=>⟨e,hco⟩) (λa a q=>by rw[hkp]at q;show absurd q aD) λP' s' ok'=>A1 ?_));show ih xs vs r (pre++[(yk.1,yk.2,some v)]) P' s' e' (λp hp=>hk p (.tail _ hp)) (cS hl) (cS hl') (by rw[aH];show ok') λP'' s'' ok''=>h P'' s'' ?_;rw[aH]at ok'';show ok''
end
def PH.lay(P:PH)(L:aK)(cs:List (bY×aK)):PH:=λb=>if b=L then some (.frame λ_=>none) else if b∈cs.map (·.2) then some (.cell none) else P b
theorem Jw:∀{names:List (bY×aY)}{k:Nat}{acc:List (bY×aK)}{x:bY},((x,j8)∈names\/(acc.lookup x).isSome=true)->((qg k names acc).lookup x).isSome=true:=by
 intro l9
 induction l9 with
 |nil=>intro z1 z2 z3 h;show h.elim (λh=>absurd h aD) id
 |cons x9 r ih =>
  intro k acc x h;obtain⟨y,j⟩:=x9;unfold qg;by_cases hj:(j==.cell)=true
  .rw[if_pos hj];show ih (h.elim (λh=>?_) λh=>.inr ?_)
   .apply Y;rcases aS.mp h with e8|e
    .injection e8 with e8 e7;subst e8;subst e7;show .inr (by simp)
    .show .inl e
   .simp only[kq];split
    .rfl
    .show h
  .rw[if_neg hj];show ih (h.imp_left λh=>?_)
   cases h with
   |head=>show absurd tt hj
   |tail _ e=>show e
theorem Dw{names:List (bY×aY)}(nd:(names.map (·.1)).Nodup)(h:(x,k)∈names):names.lookup x=some k:=by
 induction names with
 |nil=>show absurd h aD
 |cons p r ih=>
  obtain⟨h1,h2⟩:=bX.mp nd;rw[kq];clear nd;rcases aS.mp h with e8|e
  .subst e8;rw[beq_self_eq_true]
  .skip;rw[show(x==p.1)=false from beq_eq_false_iff_ne.mpr λ(q:x=p.1)=>h1 (aE.mpr ⟨_,e,q⟩)];show ih h2 e
noncomputable abbrev Fx.u (F:Fx):Fx:={F with n:=F.n+1}
noncomputable abbrev Fx.bd (F:Fx):Fx:={F with keep:=[],co:=false,code:=none}
theorem O2{fa:aK}(fn:Fn fa as body sc){F:Fx}{K:V->AH->Prop}(oc:Option aK)(hoc:∀c,oc=some c->∀P fd,(Am P).lookup fa=some {cls:=.type "function",data:=.func fd}->fd.code=.ref c)(hl:as.length=vs.length)
  (h:WS {F.bd with code:=oc} K (mk0 sc.names vs) H body (λd H'=>K .none H')):WCc F.u ↑fa vs H K:=by
 intro A outer P s xs a fr fs hcl q r;obtain⟨fd,ho,hb,hsc,hc,hg,hbl,hcd,hbd⟩:=fn.obj F.g.w.params;have hoc:=λc h=>hoc c h _ _ ho;have X:=F.g.K.keeps q.base;have ok:=fn.ok;subst hsc;obtain⟨o1,q1⟩:=aT.mp ok;obtain⟨o2,q2⟩:=aT.mp q1;obtain⟨o3,q3⟩:=aT.mp q2;obtain⟨o4,q4⟩:=aT.mp q3;obtain⟨o5,q5⟩:=aT.mp q4;obtain⟨o6,q6⟩:=aT.mp q5;obtain⟨o7,o8⟩:=aT.mp q6;clear ok q1 q2 q3 q4 q5 q6;replace o1:=dte o1;replace o2:=(gq _).mp o2;replace o3:=(gq _).mp o3;replace o5:=eq_of_beq o5;replace o6:=cT.mp o6;replace o7:=cT.mp o7;replace o8:=cT.mp o8;have nd:=Ef o4;show Ec (by have:=a.depth;show dW (aC (gY _ _) this) (nle tt)) (X _ _ ho) rfl o2 o3 hb (codeRec_of X hcd) ?_;replace hbd:=hbd λi=>xs.getD i .none;rw[hl.trans r.len,vx_of]at hbd;show lf <| (p8 X (hbd _)).here ?_;simp only[hc,hg,hbl];unfold iH;simp only[Option.isSome_none,nJ,if_false];show A0 (Dv ?_);show A0 (lf <| wpAny_layCells _ (λname kind cells=>by rcases hkc:kind==j8<;>simp) _ _ _ _ ?_);have cok:=cellsFrom_ok fd.scope.names (s.heap.push {cls:=.type "frame",data:=.dict #[]}) (s.heap.objs.size+1) [] {λd d hm=>(absurd hm aD),qm} (by simp only[cY];show bC _);rw[cY]at cok;rw[show({s with heap:=s.heap.push {cls:=.type "frame",data:=.dict #[]}}:aW).heap.objs.size=s.heap.objs.size+1 from cY ..];generalize hL:s.heap.objs.size=L at cok ⊢;generalize hC:qg (L+1) fd.scope.names []=cs at cok ⊢;have keep:∀b o,s.heap.get? b=some o->(qe (s.heap.push {cls:=.type "frame",data:=.dict #[]}) fd.scope.names).get? b=some o:=λb o e=>qF _ _ b o (bA _ e);have frL:(qe (s.heap.push {cls:=.type "frame",data:=.dict #[]}) fd.scope.names).Ns L λd=>none:={_,#[],0,qF _ _ _ _ ((hL▸bI _ rfl)),rfl,λe he=>by simp at he,λd=>rfl};generalize qe (s.heap.push {cls:=.type "frame",data:=.dict #[]}) fd.scope.names=h' at cok keep frL ⊢;have new:∀b,L<=b->H b=none/\P b=none/\F.g.base.get? b=none:=λb hb=>q.fresh (Ak ((hL▸hb)));have cel:=λx c e=>cok.empty x c (mem_of_lookup e);have cin:∀{b},b∈cs.map (·.2)->h'.IsCell b none/\L+1<=b:=λhb=>by apply Y;obtain⟨⟨x,c⟩,e,rfl⟩:=aE.mp hb;show cok.empty x c e
 have pl:∀b p,P b=some p->(P.lay L cs) b=some p:=λb p e=>by
  unfold PH.lay;rw[if_neg λy=>?_,if_neg λy=>?_]
  .show e
  .rw[(new b (iC (cin y).2)).2.1]at e;show absurd e.symm (aF _)
  .rw[(new b (fK y.symm)).2.1]at e;contradiction
 have fro:Fro P (P.lay L cs):=λb p e d=>pl b p e;have q':Rel F.g H (P.lay L cs) {s with heap:=h'}:=by
  have q1:=q.grow (t:=s.toks) keep;show{q1.base,λb o e=>?_,λb p e=>?_,q.gens,q.os}
  .apply Y;obtain⟨z1,z2,z3⟩:=q1.own b o e;show{z1,?_,z3.at fro rfl};unfold PH.lay;rw[if_neg λy=>?_,if_neg λy=>?_]
   .show z2
   .rw[(new b (iC (cin y).2)).1]at e;show absurd e.symm (aF _)
   .rw[(new b (fK y.symm)).1]at e;contradiction
  .unfold PH.lay at e;split at e
   .next y=>clear as body vs K hl A outer xs a fr fs hcl q r fd ho hb hc hg hbl hcd hbd hoc X fn h o1 o2 o3 o4 o5 o6 o7 o8 nd hL hC cok keep cel cin pl fro q1;subst y;injection e with e;subst e;show{λd=>(new b (bC _)).2.2,frL}
   .apply Y;split at e
    .next y=>injection e with e;subst e;show{λd=>(new b (iC (cin y).2)).2.2,(cin y).1}
    .obtain⟨z1,z2⟩:=q1.prv b p e;show{z1,z2.at fro rfl}
 have cl:∀x c,cs.lookup x=some c->(P.lay L cs) c=some (.cell none):=λx c e=>by
  unfold PH.lay;rw[if_neg (mA (cel x c e).2),if_pos (aE.mpr {_,mem_of_lookup e,rfl})]
 generalize hE:({scope:=fd.scope,locals:=L,globals:=cV,cells:=cs,qual:=fd.qualname++".<locals>.",func:=some fa,code:=fd.code,frame:=some L,builtins:=i4}:oT)=env;have e1:env.scope=fd.scope:=hE▸rfl;have e2:env.locals=L:=hE▸rfl;have e3:env.cells=cs:=hE▸rfl;have ok0:Ok {F.bd with code:=oc} {A.deeper env,env,outer,P,fd.scope.names} ([]++mk0 fd.scope.names []) (Cl.vals vs xs) H (P.lay L cs) {s with heap:=h'}:=by
  have hk:∀p∈fd.scope.names,env.kindOf p.1=some p.2:=λp hp=>by unfold jP;show e1▸Dw nd hp
  show⟨{{?_,?_,a.quiet},.fn (by change A.frames.map (env::·)=_;rw[fr];rfl) (λb hb=>(fs b hb).elim λk y0=>y0.elim λL y1=>y1.elim λm y2=>y2.elim λe1 e2=>⟨k,L,m,e1,e2⟩) (hE▸rfl) (e1▸o1),hcl,e1▸o1,hE▸rfl,hE▸rfl,nd,hk,o8,e2▸(new L (bC _)).2.1,λx y c hx hy=>?_,λd x c hx d=>?_,λc e=>hE▸hoc c e},q',pl,Hx _ _,
   {_,by rw[e2];show if_pos rfl,(λx v(hm:_∈mk0 fd.scope.names [])=>nomatch (Qu hm).2:Mx _ (mk0 fd.scope.names []) _),λx v hm=>absurd hm aD},λx k ov hm hk=>?_,λc hc=>Cl.mono (r.cls c hc) fro λb o e=>pl b _ e,by have:=Cl.b7 (vs:=vs) (xs:=xs) (t:=[]);rw[bG]at this;simp only[this];show ny⟩
  .have:=a.depth;change A.depth+1+F.n<=900;simp only[iP,qk 1];show this
  .have this:=a.units;change A.units+3+20*F.n<=8000;show lin 0x480003e806eca88ed441480003e806eca88e8a43d842 263 tt this
  .rw[e3]at hx hy;show name_of_addr cok.apart (mem_of_lookup hx) (mem_of_lookup hy)
  .rw[e3]at hx;show(new c (iC (cel x c hx).2)).2.1
  .obtain⟨hm',rfl⟩:=Qu (hm);clear as body F vs H K hl s xs a fr fs hcl q r ho hb hg hbl hcd hbd hoc X fn h o1 o2 o3 o4 o5 o6 o8 nd hL h' cok keep frL new cel cin pl fro q' hE e1 e2 hm;rcases hk with rfl|rfl
   .obtain⟨c,hc⟩:=li.mp (Jw (k:=L+1) (acc:=[]) (.inl hm'));rw[hC]at hc;show{c,none,e3▸hc,cl x c hc,λv e=>absurd e.symm (aF _)}
   .show aR (show false=true from o7 _ hm')
 show A0 (Tq (F:={F.bd with code:=oc}) (D:={A.deeper env,env,outer,P,fd.scope.names}) rfl rfl _ (λd d d=>rfl) _ as xs vs fd.scope.names [] _ _ o5 (λp hp=>?_) hl r.len ok0 λP1 s1 ok1=>A1 {?_,?_})
 .have:=o6 p hp;rcases e:p.2<;>simp only[e]at this<;>first|show .inl rfl|show .inr rfl|show aR this
 .show F.g.lim.keeps ok1.q.base
 .show Le (A4 (h _ _ _ _ ok1) (λfl s2 p=>?_) λe s2 p=>?_)
  .induction p using PS.casesOn with
   |next m' H' P' k ok'=>show .ok _ .none H' P' k rfl ok'.q ok'.sub
   |ret x v H' P' k r q sub=>show .ok x v H' P' k r q sub
  .obtain⟨X,H',P',b,p,k,rfl,tb,hp,q,bare⟩:=p;have fs':Frs P' (env::outer):=λe he=>by
    apply Y;rcases aS.mp he with e8|he
    .subst e8;obtain⟨n,e,d⟩:=bare.loc;show{by simp only[e1,o1];decide,_,n,hE▸rfl,e}
    .obtain⟨k,L,m,e1,e2⟩:=fs e he;show{k,L,m,e1,bare.sub _ _ e2}
   show tb.fg (by change A.frames.map (env::·)=_;rw[fr];rfl) fs' (hE▸rfl:env.frame=some L) ((hE▸rfl:env.frame=some L)▸hp) q (.refl bare.sub) λP'' h'' tb' q' ks=>.err X H' P'' b k tb' q' ks.sub
theorem Tr(fn:Fn fa as body sc){F:Fx}{K:V->AH->Prop}(hl:as.length=vs.length)
  (h:WS F.bd K (mk0 sc.names vs) H body (λa H'=>K .none H')):WCc F.u ↑fa vs H K:=O2 fn none (λa h=>absurd h.symm (aF _)) hl h
end
section
variable{F:Fx}{D:Dx}{m m':Loc}{t:List Cl}{H:AH}{P:PH}{s:aW}{K:V->AH->Prop}{KB':Bool->AH->Prop}
theorem Pf(h:nmOk x=true):(x==("__debug__" : bY))=false/\(x==("__classdict__" : bY))=false:=by
 apply Y;obtain⟨a,b⟩:=aT.mp h;show{by simpa using a,by simpa using b}
theorem WE.name{k:aY}{p:ki}(hm:(x,k,some v)∈m)(hk:k=.local\/k=.cell\/k=.free)(h:K v H):WE F m H (.Name x p) K:=by
 intro D t P s ok;apply @A2 _ _ _ _ Y _ _;obtain⟨kd,nk⟩:=ok.kd hm;show Gf ?_ (Pf nk).1;apply Y;rcases hk with rfl|hk
 .obtain⟨nsm,hn,hv,b⟩:=ok.loc;obtain⟨c,e,r⟩:=hv x v hm;show lf <| wpAny_loadName_local ok.d.kind kd (ok.q.prv _ _ hn).2 e (ok.val h r)
 .obtain⟨c,cv,e,e2,e3⟩:=ok.cel x k _ hm hk;obtain⟨y,rfl,r⟩:=e3 v rfl;clear hm;rcases hk with rfl|rfl
  .show lf <| wpAny_loadName_cell ok.d.kind kd e (ok.q.prv _ _ e2).2 (ok.val h r)
  .show lf <| wpAny_loadName_free ok.d.kind kd e (ok.q.prv _ _ e2).2 (ok.val h r) (Pf nk).2
theorem Ok.bp(ok:Ok F D m t H P s):i8 (Am F.g.w.params) s.heap:=F.g.K.keeps ok.q.base
structure Ff(x:bY)(c:aL):Prop where
 look:∀P,r4 (Am P) cV x=some (some c)
structure BltF(x:bY)(c:aL):Prop where
 miss:∀P,r4 (Am P) cV x=some none
 look:∀P,r4 (Am P) i4 x=some (some c)
 fv:mj c=pure i7
theorem Ff.load(G:Ff x c)(hm:(x,.globalImplicit,ov)∈m)(ok:Ok F D m t H P s)(h:Q c s):A2 F.g.M D.A (ch (.Name x p) D.env) Q E s:=by
 obtain⟨kd,nk⟩:=ok.kd hm;show Bw ok.d.kind kd ?_ (Pf nk).1;unfold mi;rw[ok.d.glob];show A0 (lf <| (mh ok.bp (G.look _)).here (A1 h))
theorem BltF.load(G:BltF x c)(hm:(x,.globalImplicit,ov)∈m)(ok:Ok F D m t H P s)(h:Q c s):A2 F.g.M D.A (ch (.Name x p) D.env) Q E s:=by
 obtain⟨kd,nk⟩:=ok.kd hm;show Bw ok.d.kind kd ?_ (Pf nk).1;unfold mi;rw[ok.d.glob,ok.d.blt];show A0 (lf <| (mh ok.bp (G.miss _)).here (A0 (lf <| (mh ok.bp (G.look _)).here (A1 h))))
theorem WE.glob(G:Ff x c)(hc:∀P,VR P v c)(hm:(x,.globalImplicit,ov)∈m)(h:K v H):WE F m H (.Name x p) K:=λD t P s ok=>G.load hm ok (ok.val h (hc P))
theorem WE.int{i:Int}{p:ki}(h:K (.int i) H):WE F m H (.Constant (.int i) k p) K:=λD t P s ok=>lf <| wpAny_Constant_int (ok.int h)
theorem WE.str{i:bY}(h:K (.str i) H):WE F m H (.Constant (.str i) k p) K:=λD t P s ok=>lf <| wpAny_Constant_str ((ok.toks _).val h ⟨_,rfl⟩)
theorem WE.none(h:K .none H):WE F m H (.Constant .none k p) K:=λD t P s ok=>lf <| wpAny_Constant_none (ok.val h rfl)
theorem WE.bool(h:K (.bool b) H):WE F m H (.Constant (.bool b) k p) K:=λD t P s ok=>lf <| wpAny_Constant_bool (ok.bool h)
theorem WE.bytes{b:List UInt8}(h:K (.bytes b) H):WE F m H (.Constant (.bytes b) k p) K:=λD t P s ok Γ p a a=>(ok.toks _).val h ⟨_,rfl⟩
theorem WE.bin(h:WE F m H l (λa H1=>WE F m H1 r (λb H2=>W2 F (eL op) a b H2 K))):WE F m H (.BinOp l op r p) K:=
 λD t P s ok=>Mw (h.seq ok λx s1 a H1 P1 k ok1=>k.seq ok1 λy s2 b H2 P2 k2 ok2=>k2 D m t P2 s2 x y ok2)
theorem WE.un(h:WE F m H x (λa H1=>W1 F (pN op) a H1 K)):WE F m H (.UnaryOp op x p) K:=
 λD t P s ok=>Jt (h.seq ok λx s1 a H1 P1 k ok1=>k D m t P1 s1 x ok1)
section
variable{i j:Int}
theorem E8(h:∀D m t' P s t u,Ok F D m t' H P s->A2 F.g.M D.A (f (.int i t) (.int j u)) (PV F D m t' K) (PX F D) s):W2 F f (.int i) (.int j) H K:=by
 intro D m t P s x y ok;apply @A2 _ _ _ _ Y _ _;obtain⟨b,rfl⟩:=ok.top;obtain⟨a,rfl⟩:=ok.top2;show h D m t P s a b ok.pop.pop
theorem W2.add(h:K (.int (i+j)) H):W2 F (eL .Add) (.int i) (.int j) H K:=E8 λa a a a a a a ok=>lf <| add_int (ok.int h)
theorem W2.sub(h:K (.int (i-j)) H):W2 F (eL .Sub) (.int i) (.int j) H K:=E8 λa a a a a a a ok=>lf <| sub_int (ok.int h)
theorem W2.mul(hb:IntMulOk i j)(h:K (.int (i*j)) H):W2 F (eL .Mult) (.int i) (.int j) H K:=E8 λa a a a a a a ok=>lf <| mul_int (ok.int h) hb
theorem W2.mod(hb:j≠0)(h:K (.int (i.fmod j)) H):W2 F (eL .Mod) (.int i) (.int j) H K:=E8 λa a a a a a a ok=>lf <| qK hb (ok.int h)
theorem W2.fdiv(hb:j≠0)(hd:Builtin.divisionGoesByPylong i j=false)(h:K (.int (i.fdiv j)) H):W2 F (eL .FloorDiv) (.int i) (.int j) H K:=E8 λa a a a a a a ok=>lf <| floordiv_int hb (ok.int h) (.inl hd)
theorem W2.pow(hb:0<=j)(hs:(gP i:Int)*j<=2^27)(h:K (.int (i^j.toNat)) H):W2 F (eL .Pow) (.int i) (.int j) H K:=E8 λa a a a a a a ok=>lf <| pow_int hb hs (ok.int h)
theorem W2.shl(hb:0<=j)(hs:(gP i:Int)+j<=2^27)(h:K (.int (i*2^j.toNat)) H):W2 F (eL .LShift) (.int i) (.int j) H K:=E8 λa a a a a a a ok=>lf <| lshift_int hb hs (ok.int h)
theorem W2.shr(hb:0<=j)(h:K (.int (i.fdiv (2^j.toNat))) H):W2 F (eL .RShift) (.int i) (.int j) H K:=E8 λa a a a a a a ok=>lf <| rshift_int hb (ok.int h)
theorem W2.band(h:K (.int (nW i j)) H):W2 F (eL .BitAnd) (.int i) (.int j) H K:=E8 λa a a a a a a ok=>lf <| and_int (ok.int h)
theorem W2.bor(h:K (.int (la i j)) H):W2 F (eL .BitOr) (.int i) (.int j) H K:=E8 λa a a a a a a ok=>lf <| or_int (ok.int h)
theorem W2.iadd(h:K (.int (i+j)) H):W2 F (fS .Add) (.int i) (.int j) H K:=E8 λa a a a a a a ok=>lf <| wpAny_iadd_int (ok.int h)
theorem W2.lt(h:K (.bool (decide (i<j))) H):W2 F (bU .Lt) (.int i) (.int j) H K:=E8 λa a a a a a a ok=>lf <| qL (ok.bool h)
theorem W2.le(h:K (.bool (decide (i<=j))) H):W2 F (bU .LtE) (.int i) (.int j) H K:=E8 λa a a a a a a ok=>lf <| qM (ok.bool h)
theorem W2.gt(h:K (.bool (decide (j<i))) H):W2 F (bU .Gt) (.int i) (.int j) H K:=E8 λa a a a a a a ok=>lf <| qN (ok.bool h)
theorem W2.ge(h:K (.bool (decide (j<=i))) H):W2 F (bU .GtE) (.int i) (.int j) H K:=E8 λa a a a a a a ok=>lf <| qO (ok.bool h)
theorem W2.eq(h:K (.bool (i==j)) H):W2 F (bU .Eq) (.int i) (.int j) H K:=E8 λa a a a a a a ok=>lf <| qQ (ok.bool h)
theorem W2.ne(h:K (.bool (i !=j)) H):W2 F (bU .NotEq) (.int i) (.int j) H K:=E8 λa a a a a a a ok=>lf <| qJ (ok.bool h)
theorem W1.neg(h:K (.int (-i)) H):W1 F (pN .USub) (.int i) H K:=by
 intro D m t P s x ok;apply @A2 _ _ _ _ Y _ _;obtain⟨a,rfl⟩:=ok.top;show lf <| qH (ok.pop.int h)
end
theorem W2.eqB(h:K (.bool (i==j)) H):W2 F (bU .Eq) (.bool i) (.bool j) H K:=by
 intro D m t P s x y ok;rw[ok.top];rw[ok.top2];show lf <| eq_bool (ok.pop.pop.bool h)
theorem W2.eqS(h:K (.bool (i==j)) H):W2 F (bU .Eq) (.str i) (.str j) H K:=by
 intro D m t P s x y ok;apply @A2 _ _ _ _ Y _ _;obtain⟨a,rfl⟩:=ok.top;obtain⟨a,rfl⟩:=ok.top2;show lf <| qP (ok.pop.pop.bool h)
theorem W2.neS(h:K (.bool (i !=j)) H):W2 F (bU .NotEq) (.str i) (.str j) H K:=by
 intro D m t P s x y ok;apply @A2 _ _ _ _ Y _ _;obtain⟨a,rfl⟩:=ok.top;obtain⟨a,rfl⟩:=ok.top2;show lf <| qI (ok.pop.pop.bool h)
theorem W2.eqY(h:K (.bool (i==j)) H):W2 F (bU .Eq) (.bytes i) (.bytes j) H K:=by
 intro D m t P s x y ok;apply @A2 _ _ _ _ Y _ _;obtain⟨a,rfl⟩:=ok.top;obtain⟨a,rfl⟩:=ok.top2;show lf <| eq_bytes (ok.pop.pop.bool (by simp only[jt];show h))
theorem W2.neY(h:K (.bool (i !=j)) H):W2 F (bU .NotEq) (.bytes i) (.bytes j) H K:=by
 intro D m t P s x y ok;apply @A2 _ _ _ _ Y _ _;obtain⟨a,rfl⟩:=ok.top;obtain⟨a,rfl⟩:=ok.top2;show lf <| ne_bytes (ok.pop.pop.bool (by simp only[jt];show h))
def V.cq:V->Bool
 |.none=>false
 |_=>true
theorem VR.isNone(r:VR P v x):plainIs x .none=true/\(x==.none) = !v.cq:=by
 induction v using V.casesOn with
 |none=>subst r;show⟨rfl,rfl⟩
 |bool=>subst r;show⟨rfl,rfl⟩
 |ref=>subst r;show⟨rfl,rfl⟩
 |_=>obtain⟨a,h⟩:=r;first|(subst h;show⟨rfl,rfl⟩)|(obtain⟨h,b⟩:=h;subst h;show⟨rfl,rfl⟩)
theorem W2.isNone(h:K (.bool (!v.cq)) H):W2 F (bU .Is) v .none H K:=by
 intro D m t P s x y ok;rw[ok.top];apply Y;obtain⟨e1,e2⟩:=ok.top2.isNone;show lf <| wpAny_is_plain e1 (by rw[e2];show ok.pop.pop.bool h)
theorem W2.b8(h:K (.bool v.cq) H):W2 F (bU .IsNot) v .none H K:=by
 intro D m t P s x y ok;rw[ok.top];apply Y;obtain⟨e1,e2⟩:=ok.top2.isNone;show lf <| wpAny_isNot_plain e1 (by simp only[e2,q7];show ok.pop.pop.bool h)
theorem WE.cmp(hm:fT op r=false)(h:WE F m H l (λa H1=>WE F m H1 r (λb H2=>W2 F (bU op) a b H2 K))):WE F m H (.Compare l [op] [r] p) K:=
 λD t P s ok=>Ir (hm:=hm) (h.seq ok λx s1 a H1 P1 k ok1=>k.seq ok1 λy s2 b H2 P2 k2 ok2=>k2 D m t P2 s2 x y ok2)
def KB(K:Bool->AH->Prop):V->AH->Prop:=λv H=>∃b,v=.bool b/\K b H
theorem PV.truth(p:PV F D m t (KB KB') x s):A2 F.g.M D.A (lq x) (PB F D m t KB') E s:=by
 apply @A2 _ _ _ _ Y _ _;obtain⟨v,H,P,⟨b,rfl,k⟩,ok⟩:=p;rw[ok.top];show Co {H,P,k,ok.pop}
theorem WT.cmp(hm:fT op r=false)(h:WE F m H l (λa H1=>WE F m H1 r (λb H2=>W2 F (bU op) a b H2 (KB KB')))):WT F m H (.Compare l [op] [r] p) KB':=
 λD t P s ok=>Eb (hm:=hm) (h.seq ok λx s1 a H1 P1 k ok1=>k.seq ok1 λy s2 b H2 P2 k2 ok2=>A4 (k2 D m t P2 s2 x y ok2) (λc c p=>p.truth) λc c p=>p)
theorem WT.val(he:∀env whole,fY e env whole=(do let v <- whole;cQ e.pos;cN [v] (lq v)))(h:WE F m H e (KB KB')):WT F m H e KB':=
 λD t P s ok=>Fp (he:=he _ _) (A4 (h D t P s ok) (λa a p=>p.truth) λa a p=>p)
theorem WT.not(h:WT F m H x (λb=>KB' (!b))):WT F m H (.UnaryOp .Not x p) KB':=
 λD t P s ok=>Gx (h.seq ok λa a H' P' k ok'=>⟨H',P',k,ok'⟩)
def WA(F:Fx)(m:Loc)(H:AH)(op:rC)(es:List cR)(K:Bool->AH->Prop):Prop:=
 ∀D t P s,Ok F D m t H P s->A2 F.g.M D.A (lZ op es D.env) (PB F D m t K) (PX F D) s
theorem WT.bop(h:WA F m H op es KB'):WT F m H (.BoolOp op es p) KB':=λD t P s ok=>Fb (h D t P s ok)
theorem WA.andN(h:KB' true H):WA F m H .And [] KB':=λD t P s ok=>A1 ⟨H,P,h,ok⟩
theorem WA.orN(h:KB' false H):WA F m H .Or [] KB':=λD t P s ok=>A1 ⟨H,P,h,ok⟩
theorem WA.and{es:List cR}(h:WT F m H x (λb H1=>bif b then WA F m H1 .And es KB' else KB' false H1)):WA F m H .And (x::es) KB':=
 λD t P s ok=>E5 (h.seq ok λb s1 H1 P1 k ok1=>by
  show(let K3:=_;let K4:=_;(?_:@ite _ _ _ K3 K4));rcases b
  .show⟨H1,P1,k,ok1⟩
  .show k D t P1 s1 ok1)
theorem WA.or{es:List cR}(h:WT F m H x (λb H1=>bif b then KB' true H1 else WA F m H1 .Or es KB')):WA F m H .Or (x::es) KB':=
 λD t P s ok=>Ea (h.seq ok λb s1 H1 P1 k ok1=>by
  show(let K3:=_;let K4:=_;(?_:@ite _ _ _ K3 K4));rcases b
  .show k D t P1 s1 ok1
  .show⟨H1,P1,k,ok1⟩)
theorem WE.ifexp(h:WT F m H e (λc H1=>bif c then WE F m H1 b K else WE F m H1 o K)):WE F m H (.IfExp e b o p) K:=
 λD t P s ok=>Mv (h.seq ok λc s1 H1 P1 k ok1=>by
  rcases c
  .show k D t P1 s1 ok1
  .show k D t P1 s1 ok1)
def WO(F:Fx)(m:Loc)(H:AH)(op:rC)(p:ki)(es:List cR)(K:V->AH->Prop):Prop:=
 ∀D t P s,Ok F D m t H P s->A2 F.g.M D.A (boolOp p op (jL es D.env)) (PV F D m t K) (PX F D) s
theorem WE.bop(h:WO F m H op p es K):WE F m H (.BoolOp op es p) K:=h
theorem WO.one(h:WE F m H x K):WO F m H op p [x] K:=h
theorem WO.and{es:List cR}(h:WE F m H x (KB λb H1=>bif b then WO F m H1 .And p (y::es) K else K (.bool false) H1)):WO F m H .And p (x::y::es) K:=by
 intro D t P s ok;apply @A2 _ _ _ _ Y _ _;show A0 (h.seq ok λz s1 v H1 P1⟨b,e,k⟩ok1=>A0 (A5 (A0 (A3 ?_))));subst e;rw[ok1.top];show Co ?_;rcases b
 .show A1 (ok1.pop.bool k)
 .show k D t P1 s1 ok1.pop
theorem Vn{α:Type}{R:Bool->V->AH->Prop}(h:WE F m H l λa H1=>WE F m H1 r λb H2=>W2 F (bU op) a b H2 (KB λt H3=>R t b H3))(ok:Ok F D m t H P s){f:aL->aL->Bool->kh α}{Q:α->aW->Prop}
  (n:∀c b y s' H' P',R c b H'->Ok F D m (.val b y::t) H' P' s'->A2 F.g.M D.A (f y (.bool c) c) Q (PX F D) s') :
  A2 F.g.M D.A (do let x <- ch l D.env;let rv <- cN [x] (ch r D.env);cQ p;let c <- cN [x,rv] (bU op x rv);jb [x,rv] [c];let b <- cN [c,rv] (lq c);f rv c b) Q (PX F D) s:=by
 show A0 (h.seq ok λx s1 a H1 P1 k ok1=>A0 (A3 (k.seq ok1 λy s2 b H2 P2 k2 ok2=>A0 (A5 (A0 (A3 (A4
  (k2 D m (.val b y::t) P2 s2 x y (((ok2.pop.pop.push ok2.top).push ok2.top2).push ok2.top)) (λz s3 p3=>?_) λd d p=>p)))))))
 apply Y;obtain⟨v,H3,P3,⟨c,rfl,k3⟩,ok3⟩:=p3;obtain rfl:=ok3.top;show A0 (lf <| wpAny_release (A0 (A3 (Co (n c b y s3 H3 P3 k3 ok3.pop)))))
theorem WE.chain{l r r2:cR}(hm:fT op2 r2=false)
  (h:WE F m H l λa H1=>WE F m H1 r λb H2=>W2 F (bU op) a b H2 (KB λt H3=>bif t then WE F m H3 r2 (λc H4=>W2 F (bU op2) b c H4 K) else K (.bool false) H3)):WE F m H (.Compare l [op,op2] [r,r2] p) K:=by
 intro D t P s ok;have e:ch (.Compare l [op,op2] [r,r2] p) D.env=(do nN p (<- ch l D.env) [op,op2] [ch r D.env,ch r2 D.env]):=by
  change(do nN p (<- ch l D.env) [op,op2] (mg [op,op2] [r,r2] (jL [r,r2] D.env)))=_;simp only[mg,jL,gO hm]
 rw[e];show Vn (f:=λrv c b=>if b then nN p rv [op2] [ch r2 D.env] else pure c) h ok λc b y s3 H3 P3 k ok3=>?_;apply @A2 _ _ _ _ Y _ _;rcases c
 .show A1 (ok3.pop.bool k)
 .show A0 (A3 (k.seq ok3 λz s4 c H4 P4 k4 ok4=>A0 (A5 (Ba (k4 D m t P4 s4 y z ok4)))))
theorem WT.chain{l r r2:cR}(hm:fT op2 r2=false)
  (h:WE F m H l λa H1=>WE F m H1 r λb H2=>W2 F (bU op) a b H2 (KB λt H3=>bif t then WE F m H3 r2 (λc H4=>W2 F (bU op2) b c H4 (KB KB')) else KB' false H3)):WT F m H (.Compare l [op,op2] [r,r2] p) KB':=by
 intro D t P s ok;have e:fY (.Compare l [op,op2] [r,r2] p) D.env (ch (.Compare l [op,op2] [r,r2] p) D.env)=(do q9 p (<- ch l D.env) [op,op2] [ch r D.env,ch r2 D.env]):=by
  change(do q9 p (<- ch l D.env) [op,op2] (mg [op,op2] [r,r2] (jL [r,r2] D.env)))=_;simp only[mg,jL,gO hm]
 rw[e];show Vn (f:=λrv c b=>if b then q9 p rv [op2] [ch r2 D.env] else pure false) h ok λc b y s3 H3 P3 k ok3=>?_;apply @A2 _ _ _ _ Y _ _;rcases c
 .show A1 {H3,P3,k,ok3.pop}
 .show A0 (A3 (k.seq ok3 λz s4 c H4 P4 k4 ok4=>A0 (A5 (A0 (Ba (A4 (k4 D m t P4 s4 y z ok4) (λd d p=>A3 p.truth) λd d p=>p))))))
end
section
set_option backward.match.sparseCases false
theorem Er:(strKind pw w).is name v=v.isStr name:=by
 rcases v<;>first|rfl|skip
theorem Pg(p:Pairs (strKind pw w) es kvs)(name:bY):getL name es=some (pM kvs name):=by
 have f:=p.find name;have e:(es.find? λe=>(strKind pw w).is name e.key)=es.find? (·.key.isStr name):=by congr 1;funext e;show Er
 rw[e]at f;unfold getL
 induction q:es.find? (·.key.isStr name) using Option.casesOn with
 |some en=>rw[q]at f;show congrArg some f
 |none=>
  rw[q]at f;have:es.any (·.refKey)=false:=by
   clear f q e
   induction p with
   |nil=>rfl
   |@cons e kv es kvs h1 h2 _ ih=>
    simp only[pI,ih,Bool.or_false];obtain⟨t,ht⟩:=mO h1;simp[mK,ht]
  rw[this];rw[<- f];rfl
theorem J6{s:aW}(hm:s.heap.DictOf (strKind pw w) d kvs)(hsz:kvs.length<=1000)
  (hQ:∀h',h'.DictOf (strKind pw w) d (eJ kvs name v)->cP d s.heap h'->Q () {s with heap:=h',toks:=s.toks+1}):aM (aQ pw w) A (nsSet d name v) Q E s:=by
 obtain⟨o,es,ep,ho,hc,hd,hk,hp,hn⟩:=hm;obtain⟨oc,od,odt,osl⟩:=o;obtain⟨rfl,rfl,rfl⟩:=hc;subst hd;have hl:=hp.length;have noref:es.any (·.refKey)=false:=by
  rw[Array.any_eq_false'];intro e he;obtain⟨k,hk1,c⟩:=hk e he;obtain⟨t,ht⟩:=mO hk1;simp[mK,ht]
 have hidx:(es.findIdx? (·.key.isStr name))=kvs.findIdx? λkv=>decide (kv.1=name):=by
  simp only[<- hp.findIdx name];have:(λe:lL=>(strKind pw w).is name e.key)=λe=>e.key.isStr name:=by funext e;show Er
  simp only[this];clear A E s w d kvs v Q hsz hQ ep hk hp hn ho hl noref this;obtain⟨l⟩:=es;simp
 show ac (ac (PySem.wpAny_askSetting (aB (ac (wpAny_mkText (ac (mb ho ?_)))))))
 dsimp only
 simp only[aRefKeyMayBeTheName_at,noref,lj];show wpAny_updatePart ho ?_;have hh:(if name.cps.isEmpty=true then 0 else reduceHash ((aQ pw w).w.params.strHash name.cps))=(strKind pw w).hash name:=rfl;change Q () {s with heap:=s.heap.update d (n8 name (if name.cps.isEmpty=true then 0 else reduceHash ((aQ pw w).w.params.strHash name.cps)) (.str name s.toks) v),toks:=s.toks+1};rw[hh];have isk:(strKind pw w).is name (.str name s.toks)=true:=Er.trans (by simp[ms]);have key:∃es' ep',n8 name ((strKind pw w).hash name) (.str name s.toks) v {.type "dict",none,.dict es ep,#[]}={.type "dict",none,.dict es' ep',#[]}/\KeysOf (strKind pw w) es'/\Pairs (strKind pw w) es'.toList (eJ kvs name v)/\((eJ kvs name v).map (·.1)).Nodup:=by
  rw[Obj.putName_eq];unfold Obj.putNameByArray
  dsimp only
  induction hi:es.findIdx? (·.key.isStr name) using Option.casesOn with
  |some i=>
   show{_,_,rfl,hk.modify _ _,?_,?_}
   .rw[eJ,if_pos (oW (hidx▸hi))];have hl2:(es.toList.findIdx? λe=>(strKind pw w).is name e.key)=some i:=by
     have:(λe:lL=>(strKind pw w).is name e.key)=λe=>e.key.isStr name:=by funext e;show Er
     simp only[this,<- hi];clear A E s w d kvs v Q hsz hQ ep hk hp hn ho hl noref hidx hh isk i hi this;obtain⟨l⟩:=es;simp
    have:=hp.modify hn hl2 v
    simpa using this
   .rw[eJ,if_pos (oW (hidx▸hi)),keys_map_store];show hn
  |none=>
   have hnot:=not_mem_of_findIdx_none (hidx▸hi);have hany:¬ (kvs.any λkv=>decide (kv.1=name))=true:=by
    rw[gV];rintro⟨kv,hkv,he⟩;show hnot (aE.mpr {kv,hkv,dte he})
   show{_,_,rfl,hk.push isk _,?_,?_}
   .rw[eJ,if_neg hany];have:=hp.append isk ((strKind pw w).hash name) v
    simpa using this
   .rw[eJ,if_neg hany,aJ,eC];show{hn,by simp,?_};intro a ha b hb;rw[fA,map_nil,aP]at hb;clear A E s w d Q hsz hQ es ep hk hp hn ho hl noref hidx hh isk hi hany;simp only[hb];show λe=>hnot (e▸ha)
 obtain⟨es',ep',e2,k1,k2,k3⟩:=key;have D':=cM (h:=s.heap) (a:=d) (n8 name ((strKind pw w).hash name) (.str name s.toks) v) ho (by rw[e2];rfl);rw[e2]at D';show hQ _ {_,es',ep',D',⟨rfl,rfl,rfl⟩,rfl,k1,k2,k3} (cJ ..)
section
variable{s:aW}{A:dX}{E:aL->aW->Prop}
def Wc:List aL->Bool
 |.ref _::r=>Wc r
 |l=>decide (l=[.type "object"])||decide (l=[.type "ValueError",.type "Exception",.type "BaseException",.type "object"])
theorem My(self:aL){l:List aL}(e:Wc l=true):nO self "__setattr__" l=pure ()/\l.contains (.type "object")=true/\l.isEmpty=false:=by
 have go:∀{l:List aL},(decide (l=[.type "object"])||decide (l=[.type "ValueError",.type "Exception",.type "BaseException",.type "object"]))=true->nO self "__setattr__" l=pure ()/\l.contains (.type "object")=true/\l.isEmpty=false:=λh=>by
  rcases iG.mp h with h|h
  .rw[dte h];show{lS.passes self,rfl,rfl}
  .rw[dte h];show{PySem.F.store_ValueError.passes self,rfl,rfl}
 induction l with
 |nil=>show go e
 |cons v r ih=>
  induction v using PySem.Value.casesOn with
  |ref c=>
   obtain⟨h1,h2,a⟩:=ih e;show{by rw[refuseLoop_ref];show h1,‹_›,rfl}
  |_=>show go e
def O3(K:Frag)(C:aK):Bool:=(clsIn K C).any λcd=>Wc cd.mro
section
open Builtin Builtin.ObjectAttr Builtin.Getset_descriptor
theorem Lh{K:Frag}{C x:aK}{A:dX}(X:K.In s.heap)(I:InstAt s.heap x ox C od)(hp:O3 K C=true)(ht:kV K C name=some r)
  (h:∀b,aM (aQ pw w) A.in1 (match r with|some a=>setByDescriptor a ↑x v|none=>storeInOwnDict ↑x ↑C (.str name tk) name v b)
   (λfin s'=>match fin with|.done f=>R (.ok f) s'|.again c'=>c'.quiet=true/\dD (aQ pw w) A c' R s') (λe s'=>R (.error e) s') s) :
  dD (aQ pw w) A (.call (.builtin "object.__setattr__") {[↑x,.str name tk,v],[]}) R s:=by
 have SF:=lS;obtain⟨cd,hc,ho⟩:=rq hp;obtain⟨o1,o2,ne⟩:=My ↑x ho;have sub:dU (aQ pw w) s.heap (kG ↑x (.type "object")) true:=I.type.andThen (looks_mroIn X (by unfold mroIn;rw[hc,bind_some,if_neg (by rw[ne];decide),o2]));show eM SF.slot.plain SF.entry (@check_slot (aQ pw w) _ _ s "object.__setattr__" "object" "__setattr__" ↑x [.str name tk,v] [] _ SF.kind SF.split sub (SF.args ↑x (.str name tk) v) ?_);obtain⟨attr,ha,hr⟩:=lB.mp ht;have hm:dU (aQ pw w) s.heap (mroOf ↑C) cd.mro:=(oF X hc).andThen .now;have L3:dU (aQ pw w) s.heap (storeTaker? attr) r:=by
  induction attr using Option.casesOn with
  |none=>clear C x R A ox od name tk v X I hp ht h SF cd hc ho o1 o2 ne sub hm ha;injection hr with hr;subst hr;show .now
  |some a=>
   obtain⟨b,hb,e9⟩:=bF.mp hr;simp only[<- e9];show(looks_takesIn X hb).andThen ?_;clear K C x R A ox od name tk v X I hp SF cd hc ho o1 o2 ne sub hm ha hb ht h hr;clear e9;rcases b<;>show .now
 rw[osa_eq,refuse_eq];show ac (ac (I.type.here (ac (hm.here ?_))));apply @aM _ _ _ _ Y _ _;rw[o1];show aB (ac (I.type.here (ac ((kZ X ha).here (ac (L3.here ?_))))));show h _
end
theorem Qv{K:Frag}{R:lD->aW->Prop}{w:gE}{ox od:jh}{name:bY}{tk:qi}{v:aL}{kvs:List (bY×aL)}(X:K.In s.heap)
  (I:InstAt s.heap x ox C (some od)) (hd:ox.dict=some dx) (hp:O3 K C=true) (ht:kV K C name=some none) (hh:(clsIn K C).any (·.hasDict)=true) (D:s.heap.DictOf (strKind pw w) dx kvs) (hsz:kvs.length<=900)
  (h:∀h',h'.DictOf (strKind pw w) dx (eJ kvs name v)->cP dx s.heap h'->R (.ok (.ret .none)) {s with heap:=h',toks:=s.toks+1}) :
  dD (aQ pw w) A (.call (.builtin "object.__setattr__") {[↑x,.str name tk,v],[]}) R s:=by
 show Lh X I hp ht λb=>?_;apply Y;obtain⟨cd,hc,hd'⟩:=rq hh;obtain⟨hx,hcl,hn,-⟩:=I;obtain⟨oc,odi,oda,osl⟩:=ox
 dsimp only at hcl hd
 clear hn;subst hcl hd;show ac (aB (ac (ac (mb hx (ac ((oF X hc).here ?_))))));apply @aM _ _ _ _ Y _ _;rw[hd'];apply @aM _ _ _ Y _ _ _;show aB (a:=some dx) (ac (aB (ac ?_)));apply @aM _ _ _ _ Y _ _;show J6 D (aC ‹_› (nle rfl)) λh' D' sb=>?_;have D2:=D';obtain⟨od',es',ep',ho',hc',hd2,hk',hp',hn'⟩:=D';show ac (lm (s:={s with heap:=h',toks:=s.toks+1}) ho' ?_ ?_)
 .rw[hd2];show qf ?_;have:=hp'.length;simp only[jp]at this;have:=qa kvs name v;have:901<=dM:=nle tt;lia
 .show aB (h _ D2 sb)
end
def lget{κ β:Type}[DecidableEq κ]:List (κ×β)->κ->Option β
 |[],_=>.none
 |(k,v)::r,x=>if k=x then some v else lget r x
def lput{κ β:Type}[DecidableEq κ]:List (κ×β)->κ->β->List (κ×β)
 |[],x,v=>[(x,v)]
 |(k,w)::r,x,v=>if k=x then (k,v)::r else (k,w)::lput r x v
theorem Cw{κ:Type}[DecidableEq κ]{k:κ}:∀{xs:List (κ×aL)},pM xs k=lget xs k:=by
 intro l9
 induction l9 with
 |nil=>show rfl
 |cons x9 r ih =>
  obtain⟨j,v⟩:=x9;change((((j,v)::r).find? λkv=>kv.1=k).map (·.2))=if j=k then some v else lget r k;rw[List.find?_cons];by_cases h:j=k
  .rw[if_pos h,decide_eq_true h];rfl
  .rw[if_neg h,decide_eq_false h];show ih
theorem Fg{κ:Type}[DecidableEq κ]{k:κ}{x:aL}{xs:List (κ×aL)}(nd:(xs.map (·.1)).Nodup):eJ xs k x=lput xs k x:=by
 induction xs with
 |nil=>rfl
 |cons p r ih=>
  obtain⟨j,v⟩:=p;obtain⟨n1,n2⟩:=bX.mp nd;replace ih:=ih n2;unfold eJ at ih;change(if (decide (j=k)||r.any λkv=>decide (kv.1=k))=true then (if j=k then (j,x) else (j,v))::r.map (λkv=>if kv.1=k then (kv.1,x) else kv) else (j,v)::r++[(k,x)])=if j=k then (j,x)::r else (j,v)::lput r k x;rcases bB (j=k) with h|h
  .clear ih;subst h;have e:(r.map λkv=>if kv.1=j then (kv.1,x) else kv)=r:=by
    show(ju λkv hk=>if_neg λq=>n1 ?_).trans (List.map_id _);show aE.mpr ⟨kv,hk,q⟩
   rw[if_pos rfl,if_pos rfl,e,decide_eq_true rfl];rfl
  .rw[if_neg h,if_neg h,decide_eq_false h,Bool.false_or,<- ih];split<;>rfl
theorem VM.get{κ:Type}[DecidableEq κ]{m:List (κ×V)}{xs:List (κ×aL)}(r:VM P m xs)(k:κ):(lget m k=none/\lget xs k=none)\/∃v x,lget m k=some v/\lget xs k=some x/\VR P v x:=by
 induction r with
 |nil=>show .inl ⟨rfl,rfl⟩
 |@cons j v x m xs h _ ih=>
  rcases bB (j=k) with e|e
  .show .inr {v,x,if_pos e,if_pos e,h}
  .show(show lget ((j,v)::m) k=lget m k from if_neg e)▸(show lget ((j,x)::xs) k=lget xs k from if_neg e)▸ih
theorem VM.put{κ:Type}[DecidableEq κ]{m:List (κ×V)}{xs:List (κ×aL)}(r:VM P m xs)(k:κ)(h:VR P v x):VM P (lput m k v) (lput xs k x):=by
 induction r with
 |nil=>show .cons h .nil
 |@cons j w y m xs h' t ih=>
  rcases bB (j=k) with e|e
  .show(show lput ((j,w)::m) k v=(j,v)::m from if_pos e)▸(show lput ((j,y)::xs) k x=(j,x)::xs from if_pos e)▸.cons h t
  .show(show lput ((j,w)::m) k v=(j,w)::lput m k v from if_neg e)▸(show lput ((j,y)::xs) k x=(j,y)::lput xs k x from if_neg e)▸.cons h' ih
theorem VM.len{κ:Type}{m:List (κ×V)}{xs:List (κ×aL)}(r:VM P m xs):m.length=xs.length:=by
 induction r with
 |nil=>rfl
 |cons _ _ ih=>show congrArg k8 ih
structure StF(c:aK):Prop where
 hd:∀P,hasDictIn (Am P) c=true
 sa:∀P,jJ (Am P) ↑c "__setattr__"=some (some (.builtin "object.__setattr__"))
 po:∀P,O3 (Am P) c=true
structure ClsF(c:aK):Prop extends StF c where
 ga:∀P,jJ (Am P) ↑c "__getattribute__"=some (some (.builtin "object.__getattribute__"))
 gt:∀P,jJ (Am P) ↑c "__getattr__"=some none
def AtF(c:aK)(name:bY):Prop:=∀P,jJ (Am P) ↑c name=some none
structure MtF(c:aK)(name:bY)(f:aK):Prop where
 find:∀P,jJ (Am P) ↑c name=some (some ↑f)
 typ:∀P,nL (Am P) ↑f=some (.type "function")
 keep:∀P,mn (Am P) ↑f=true
theorem VR.handed(r:VR P v x):handedIn x=true:=by
 induction v using V.casesOn with
 |none=>subst r;rfl
 |bool=>subst r;rfl
 |ref=>subst r;rfl
 |_=>obtain⟨a,h⟩:=r;first|(subst h;rfl)|(obtain⟨h,b⟩:=h;subst h;rfl)
variable{F:Fx}{D:Dx}{m:Loc}{t:List Cl}{H:AH}{P:PH}{s:aW}{K:V->AH->Prop}{a c d:aK}{name:bY}{mm:List (bY×V)}
structure InstV(F:Fx)(P:PH)(s:aW)(a c d:aK)(mm:List (bY×V))(o od:jh)(xs:List (bY×aL)):Prop where
 I:InstAt s.heap a o c (some od)
 hd:o.dict=some d
 D:s.heap.DictOf (strKind pw F.g.w) d xs
 r:VM P mm xs
 nd:(xs.map (·.1)).Nodup
 look:∀n,r7 n od=some (lget xs n)
theorem Ok.inst(ok:Ok F D m t H P s)(e1:H a=some (.inst c (some d)))(e2:H d=some (.aa mm)):∃o od xs,InstV F P s a c d mm o od xs:=by
 apply Y;obtain⟨xs,_,dict,r⟩:=(ok.q.own d _ e2).2.2;have dict':=dict;obtain⟨od,es,ep,ho,hc,hd,hk,hp,hn⟩:=dict;have lk:∀n,r7 n od=some (lget xs n):=λn=>by
  have:=Pg hp n;rw[Cw]at this;unfold r7;show hd▸this
 rcases ((ok.q.own a _ e1).2.2) with⟨_,z⟩|⟨_,a0,f2,f3,f4,f5,z⟩
 .show{_,od,xs,⟨z,rfl,rfl,ho⟩,rfl,dict',r,hn,lk}
 .show{_,od,xs,⟨z,rfl,rfl,ho⟩,rfl,dict',r,hn,lk}
theorem Ok.getAttr(ok:Ok F D m t H P s)(C:ClsF c)(T:AtF c name)(e1:H a=some (.inst c (some d)))(e2:H d=some (.aa mm))(hm:lget mm name=some w)(k:K w H):
  A2 F.g.M D.A (lF ↑a name expr) (PV F D m t K) (PX F D) s:=by
 apply Y;obtain⟨o,od,xs,I⟩:=ok.inst e1 e2;rcases I.r.get name with⟨z,b⟩|⟨v,y,z,ey,ry⟩
 .rw[hm]at z;show absurd z (aF _)
 .obtain rfl:=bL (bP (eG hm) z);show lf <| get_value ok.bp I.I (C.ga _) (findObj_own (C.hd _) (T _) rfl ((I.look name).trans (congrArg _ ey))) ry.handed ((ok.toks _).val k ry)
theorem Ok.getMethod(ok:Ok F D m t H P s)(C:ClsF c)(T:MtF c name f)(e1:H a=some (.inst c (some d)))(e2:H d=some (.aa mm))(hm:lget mm name=none)
  (h:Q (.ref f,[↑a]) s):A2 F.g.M D.A (kJ ↑a name pl) Q E s:=by
 apply Y;obtain⟨o,od,xs,I⟩:=ok.inst e1 e2;show lf <| method_fn ok.bp I.I (C.ga _) (C.gt _) (T.find _) (T.typ _) ?_ h;change(r7 name od).map (·.isSome)=some false;rcases I.r.get name with⟨b,z⟩|⟨v,y,z,b⟩
 .rw[I.look name,z];rfl
 .rw[hm]at z;show absurd z.symm (aF _)
theorem Ok.setAttr(ok:Ok F D m t H P s)(C:StF c)(T:AtF c name)(e1:H a=some (.inst c (some d)))(e2:H d=some (.aa mm))(hz:mm.length<=900)(r:VR P v y)
  (h:∀s',Ok F D m t (H.set d (.aa (lput mm name v))) P s'->Q () s'):A2 F.g.M D.A (lE ↑a name y) Q E s:=by
 apply Y;obtain⟨o,od,xs,I⟩:=ok.inst e1 e2;have ht:kV (Am F.g.w.params) c name=some none:=by unfold kV;rw[T _];rfl
 show lf <| set_plain (ok.bp) I.I (C.sa _) (Qv (s:={s with toks:=s.toks+1}) (ok.bp) I.I I.hd (C.po _) ht (C.hd _) I.D ((I.r.len▸hz)) λh' D' sb=>h _ ?_);show(let K4:=_;let K6:=_;(?_:@Ok _ _ _ _ K4 _ K6));rw[Fg I.nd]at D';apply Y;obtain⟨b,ns,b,b⟩:=(ok.q.own d _ e2).2.2;show ok.same (ok.q.cn e2 sb {_,ns,D',I.r.put name r})
theorem Qw(hb:∀env w,fU e name env w=w):ch (.Attribute e name p) env=(do
   let o <- ch e env
   cQ p.atName
   let r <- cN [o] (lF o name true)
   dQ e o r
   pure r):=by
 change(do
   let o <- fU e name env (ch e env)
   cQ p.atName
   let r <- cN [o] (lF o name true)
   dQ e o r
   pure r)=_
 simp only[hb]
noncomputable abbrev At (H:AH) (v:V) (c:aK) (R:aK->aK->List (bY×V)->Prop):Prop:=∃a:aK,∃d:aK,∃mm:List (bY×V),(v=.ref a)/\(H a=some (.inst c (some d)))/\(H d=some (.aa mm))/\R a d mm
def F3(e:cR):Prop:=∀es env,eK (e::es) env=(false,ch e env)::eK es env
class inductive NoStars:List cR->Prop
 |nil:NoStars []
 |cons{e es}(h:F3 e)(t:NoStars es):NoStars (e::es)
theorem WEs.nil{K:List V->AH->Prop}(h:K [] H):WEs F m H [] K:=λD t P s p ok=>A1 {[],H,P,h,.nil,ok}
theorem WEs.cons{K:List V->AH->Prop}(hs:F3 e)(h:WE F m H e λv H1=>WEs F m H1 es λvs H2=>K (v::vs) H2):WEs F m H (e::es) K:=by
 intro D t P s p ok;rw[hs];apply @A2 _ _ _ _ Y _ _;show A0 (h.seq ok λx s1 v H1 P1 k ok1=>A0 (A1 (A0 (A3 (A4 (k D _ P1 s1 p ok1) (λys s2 q=>?_) λa a p=>p)))));obtain⟨vs,H2,P2,k2,r,ok2⟩:=q;show A1 ⟨v::vs,H2,P2,k2,.cons ok2.top r,ok2.pop⟩
theorem Cj{env:oT}{p:ki}(h:NoStars es):(hH p (eK es env)).any (·.1)=false:=by
 induction h with
 |nil=>rfl
 |cons h _ ih=>rw[h];show ih
theorem Cr{first:List aL}(hs:NoStars es)
  (hk:∀h,i8 (Am F.g.w.params) h->∃k,(k=lP\/k=i7\/k=jA)/\dU F.g.M h (mj f) k) (h:WEs F m H es K') (ok:Ok F D m t H P s)
  (hQ:∀vs H1 P1 s1 xs,K' vs H1->VRs P1 vs xs->Ok F D m t H1 P1 s1->A2 F.g.M D.A (call f (first++xs)) Q (PX F D) s1) :
  A2 F.g.M D.A (jM pos f first (hH pos (eK es D.env)) []) Q (PX F D) s:=by
 show Cd (P:=i8 (Am F.g.w.params)) (by rw[Cj hs];rfl) hk ?_;apply @A2 _ _ _ _ Y _ _;have h:=h D t P s pos ok
 induction es with
 |nil=>
  intro Γ p hΓ hN;obtain⟨vs,H1,P1,k,r,ok1⟩:PVs F D m t K' [] s:=h Γ p hΓ hN;show mY (f:=f) (Q:=λx s₁=>i8 (Am F.g.w.params) s₁.heap/\A2 F.g.M D.A (call f (first++x.pos) x.kw) Q (PX F D) s₁) {ok.bp,hQ vs H1 P1 s [] k r ok1} Γ p hΓ
 |cons e r=>
  cases hs with
  |cons h1 _=>
  rw[h1]at h ⊢;show Bz (A4 h (λxs s1 p=>let ⟨vs,H1,P1,k,r,ok1⟩:=p;{ok1.bp,hQ vs H1 P1 s1 xs k r ok1}) λb b p=>p)
theorem Mz(hk:∀P,mn (Am P) ↑fa=true){g:Gl}:∀h,i8 (Am g.w.params) h->∃k,(k=lP\/k=i7\/k=jA)/\dU g.M h (mj ↑fa) k:=
 λh X=>keeps_K (hk _) h X
theorem WE.call(G:Ff x ↑fa)(hk:∀P,mn (Am P) ↑fa=true)(hs:NoStars args)(hm:(x,.globalImplicit,ov)∈m)(h:WEs F m H args λvs H1=>WC F ↑fa vs H1 K):
  WE F m H (.Call (.Name x np) args [] pos) K:=
 λD t P s ok=>Ar (G.load hm ok (Cr hs (Mz hk) h ok λvs H1 P1 s1 xs k r ok1=>k D m t P1 s1 xs ok1 r))
theorem WE.be{c:aL}(G:BltF x c)(hs:NoStars args)(hm:(x,.globalImplicit,ov)∈m)(h:WEs F m H args λvs H1=>WC F c vs H1 K):WE F m H (.Call (.Name x np) args [] pos) K:=
 λD t P s ok=>Ar (G.load hm ok (Cr hs (λh a=>{.machine,.inr (.inl rfl),.of_pure G.fv}) h ok λvs H1 P1 s1 xs k r ok1=>k D m t P1 s1 xs ok1 r))
theorem Fy(hb:∀env w,fU o name env w=w)(hs:NoStars args)(hf:args.length<30)(hl:apos.endLine=pos.line)
  (h:A2 M A (ch o env) (λov s₁=>∀pl:kh Bool,A2 M A (kJ ov name pl) (λfb s₂=>A2 M A (jM pos fb.1 fb.2 (hH pos (eK args env)) []) Q E s₂) E s₁) E s) :
  A2 M A (ch (.Call (.Attribute o name apos) args [] pos) env) Q E s:=by
 change A2 M A (do
  let ov <- fU o name env (ch o env)
  cQ apos.atName
  methodCall o name apos pos env ov (args.length+([]:List Keyword).length) (hH pos (eK args env)) []) Q E s
 rw[hb];show A0 (A4 h (λov s₁ h₁=>A0 (A5 ?_)) λa a p=>p);have few:r5 (args.length+([]:List Keyword).length) (hH pos (eK args env)) []=true:=by
  unfold r5;have e:(hH pos (eK args env)).all (!·.1)=true:=by
   rw[List.all_eq_not_any_not];simp only[q7];rw[Cj (env:=env) (p:=pos) hs];rfl
  rw[e];simp[hf]
 unfold methodCall;rw[few]
 delta calleeOf methodCallPos
 rw[if_pos rfl,if_pos (by rw[hl];simp)];show A0 (A3 (A4 (h₁ _) (λfb s₂ h₂=>A0 (A1 h₂)) λa a p=>p))
def Gm(F:Fx)(H:AH)(v:V)(name:bY)(id:String):Prop:=∀D m t P s x pl(Q:aL×List aL->aW->Prop)(E:aL->aW->Prop),Ok F D m t H P s->VR P v x->Q (.builtin id,[x]) s->A2 F.g.M D.A (kJ x name pl) Q E s
end
section
variable{F:Fx}{D:Dx}{m m':Loc}{t:List Cl}{H:AH}{P:PH}{s:aW}{K:V->AH->Prop}{KR:V->AH->Prop}{KN:Loc->AH->Prop}{nm:bY}{c:aK}
def WG(F:Fx)(m:Loc)(H:AH)(tg:cR)(v:V)(K:Loc->AH->Prop):Prop:=
 ∀D t P s x,Ok F D m (.val v x::t) H P s->A2 F.g.M D.A (pF tg D.env x) (λ_=>PU F D t K) (PX F D) s
def WGs(F:Fx)(m:Loc)(H:AH)(ts:List cR)(vs:List V)(K:Loc->AH->Prop):Prop:=
 ∀D t P s xs,Ok F D m (Cl.vals vs xs++t) H P s->vs.length=xs.length->A2 F.g.M D.A (i6 ((gK ts D.env).map (·.2)) xs) (λ_=>PU F D t K) (PX F D) s
theorem Ok.bind(ok:Ok F D m (.val v y::t) H P s)(hs:SetAt m x k v m')(hk:k=.local\/(k=.cell/\F.co=false))(hx:∀k w,(x,k,w)∉F.keep)(h:KN m' H):A2 F.g.M D.A (mr D.env x y) (λa=>PU F D t KN) E s:=
 Dm (ok.store hs hk hx λP' s' ok'=>⟨m',H,P',h,ok'⟩)
theorem WG.name{p:ki}{k:aY}(hs:SetAt m x k v m')(hk:k=.local\/(k=.cell/\F.co=false))(hx:∀k w,(x,k,w)∉F.keep)(h:KN m' H):WG F m H (.Name x p) v KN:=
 λD t P s y ok=>A0 (A5 (ok.bind hs hk hx h))
theorem Ok.rot{a b d:V}(o:Ok F D m (.val a x::.val b y::.val d z::t) H P s):Ok F D m (.val d z::.val a x::.val b y::t) H P s:=((o.pop.pop.pop.push o.top2).push o.top).push o.pop.pop.top
theorem PU.same{KH:AH->Prop}(p:PU F D t (λm' H'=>m'=m/\KH H') s):∃H P,KH H/\Ok F D m t H P s:=let ⟨m',H',P',⟨e,k⟩,ok'⟩:=p;{H',P',k,e▸ok'}
theorem WG.sub(h:WE F m H o λov H1=>WE F m H1 i λiv H2=>U3 F gF ov iv v H2 (KN m)):WG F m H (.Subscript o i p) v KN:=by
 intro D t P s y ok;apply @A2 _ _ _ _ Y _ _;change A2 _ _ (do
  let ov <- cN [y] (ch o D.env);let iv <- cN [y,ov] (ch i D.env)
  cQ p
  cN [y,ov,iv] (gF ov iv y)
  jb (match (generalizing:=false) i with|.Slice _ _ none _=>[iv,y,ov]|_=>[y,ov,iv]) []) _ _ _
 show A0 (A3 (h.seq ok λx s1 ov H1 P1 k ok1=>A0 (A3 (k.seq ok1 λz s2 iv H2 P2 k2 ok2=>A0 (A5 (A0 (A3 (A4 (k2 D m t P2 s2 x z y ok2.rot) (λa s3 p3=>?_) λa a p=>p))))))));apply Y;obtain⟨H3,P3,k3,ok3⟩:=p3.same;show Bl ⟨m,H3,P3,k3,ok3⟩
theorem WGs.nil(h:KN m H):WGs F m H [] [] KN:=λD t P s xs ok e=>by
 induction xs with
 |nil=>show A1 ⟨m,H,P,h,ok⟩
 |cons=>show absurd e.symm (gk _)
def N0(e:cR):Prop:=∀es env,gK (e::es) env=(false,pF e env)::gK es env
class inductive NoStarTs:List cR->Prop
 |nil:NoStarTs []
 |cons{e es}(h:N0 e)(t:NoStarTs es):NoStarTs (e::es)
theorem WGs.cons{vs:List V}(hs:N0 tg)(h:WG F m H tg v λm' H'=>WGs F m' H' ts vs KN):WGs F m H (tg::ts) (v::vs) KN:=λD t P s xs ok e=>by
 induction xs with
 |nil=>apply @A2 _ _ _ Y _ _ _;contradiction
 |cons x xs=>
  rw[hs];show Ch (A4 (h D _ P s x ok) (λa s1 p=>?_) λa a p=>p);obtain⟨m1,H1,P1,k,ok1⟩:=p;show k D t P1 s1 xs ok1 (cS e)
theorem F4(h:NoStarTs ts):(gK ts env).length=ts.length/\(gK ts env).findIdx? (·.1)=none:=by
 induction h with
 |nil=>show⟨rfl,rfl⟩
 |cons h _ ih=>rw[h];show{congrArg k8 ih.1,by rw[List.findIdx?_cons,ih.2];rfl}
theorem Li(x:kO h.objs.size h h'):∀b o,h.get? b=some o->h'.get? b=some o:=λb o e=>x b o (λy=>by rw[y,Ak (bC _)]at e;show absurd e.symm (aF _)) e
theorem Ok.grow(x:Ok F D m t H P s){h':j3}{n:Nat}(k:∀b o,s.heap.get? b=some o->h'.get? b=some o):Ok F D m t H P {s with heap:=h',toks:=n}:=x.same (x.q.grow k)
theorem Ok.vals(x:Ok F D m t H P s)(r:VRs P vs xs):Ok F D m (Cl.vals vs xs++t) H P s:={x.d,x.q,x.sub,x.nm,x.loc,x.cel,λc hc=>(aZ.mp hc).elim (r.cls c) (x.stk c),by simp only[Cl.b7];show x.ap}
theorem Ok.tup{vs:List V}(x:Ok F D m t H P s)(r:VR P (.tup vs) y):∃a xs,y=.ref a/\rA s.heap a xs.toArray/\VRs P vs xs:=by
 apply Y;obtain⟨a,rfl,e⟩:=r;obtain⟨xs,it,r⟩:=(x.q.prv a _ e).2;show⟨a,xs,rfl,it,r⟩
theorem WG.tup{k:Nat}{vs:List V}(hs:NoStarTs ts)(hl:ts.length=vs.length)(h:WGs F m H ts vs KN):WG F m H (.Tuple ts k p) (.tup vs) KN:=by
 intro D t P s y ok;apply Y;obtain⟨a,xs,rfl,it,r⟩:=ok.tup ok.top;show Fq ok.d.a.quiet it ?_ (F4 hs).2 λh' ex=>?_
 .rw[(F4 hs).1,hl,r.len];simp
 .simp only[jt];show h D t P _ xs ((ok.pop.grow (n:=s.toks) (Li ex)).vals r) r.len
theorem WS1.assign(hs:∀line env,iA e (some tg) line env=pure false)(hw:∀env,eQ [tg] e env=pure none)(ht:N0 tg)(h:WE F m H e λv H1=>WG F m H1 tg v KN):WS1 F KR m H (.Assign [tg] e p) KN:=by
 intro D t P s ok;apply @A2 _ _ _ _ Y _ _;show Ce (h.seq ok λx s1 v H1 P1 k ok1=>?_) (hs _ _) (hw _);rw[ht];show A4 (k D t P1 s1 x ok1) (λa s2 p=>by obtain⟨m2,H2,P2,k2,ok2⟩:=p;show .next m2 H2 P2 k2 ok2) λa a p=>p
class inductive SetL:Loc->List (bY×V)->Loc->Prop
 |nil{l}:SetL l [] l
 |cons{l l1 l' x v r}(h:SetAt l x .local v l1)(t:SetL l1 r l'):SetL l ((x,v)::r) l'
theorem Pi{env:oT}{f:cR->Option bY}(hf:∀x p,f (.Name x p)=if (env.kindOf x==some .local&&p.line==line)=true then some x else none){ns:List (bY×ki)}(hk:∀q∈ns,env.kindOf q.1=some .local)(hl:(ns.all λq=>q.2.line==line)=true):
  (ns.map λq=>lW q.1 q.2).filterMap f=ns.map (·.1):=by
 induction ns with
 |nil=>rfl
 |cons q r ih=>
  obtain⟨h1,h2⟩:=aT.mp (show(q.2.line==line&&r.all λq=>q.2.line==line)=true from hl);rw[fA,iE (b:=q.1),ih (λq hq=>hk q (.tail _ hq)) h2,fA];rw[hf,hk q (.head _),h1];rfl
theorem VRs.snoc(r:VRs P vs xs)(h:VR P v x):VRs P (vs++[v]) (xs++[x]):=by
 induction r with
 |nil=>show .cons h .nil
 |cons h' _ ih=>show .cons h' ih
theorem VRs.rev(r:VRs P vs xs):VRs P vs.reverse xs.reverse:=by
 induction r with
 |nil=>show .nil
 |cons h _ ih=>simp only[kX];show ih.snoc h
theorem Pj{as:List bY}:∀{m:Loc}{us:List V}{ys:List aL}{P:PH}{s:aW},SetL m (as.zip us) m'->(∀x∈as,∀k w,(x,k,w)∉F.keep)->as.length=us.length->us.length=ys.length->Ok F D m (Cl.vals us ys++t) H P s->KN m' H ->
  A2 F.g.M D.A (i6 (as.map λn=>mr D.env n) ys) (λa=>PU F D t KN) (PX F D) s:=by
 induction as with
 |nil=>
  intro m us ys P s sl a h1 h2 ok k;apply Y;induction us with
  |cons=>contradiction
  |nil=>induction ys with
   |cons=>show absurd h2.symm (gk _)
   |nil=>rcases sl;show A1 ⟨_,_,_,k,ok⟩
 |cons x as ih=>
  intro m us ys P s sl hx h1 h2 ok k;apply Y;cases us with
  |nil=>contradiction
  |cons u us=>induction ys with
   |nil=>contradiction
   |cons y ys=>
    cases sl with
    |cons e1 e2=>show Ch (Dm (ok.store e1 (.inl rfl) (hx x (.head _)) λP' s' ok'=>ih e2 (λx h=>hx x (.tail _ h)) (cS h1) (cS h2) ok' k))
theorem Gg:assignStores env v (some names) stores=(do rule "assign.swapped-stores";let items <- unpackItems v names.length none;i6 (names.reverse.map λn=>mr env n) items.reverse;pure .next):=rfl
theorem WS1.swap{ns:List (bY×ki)}{vs:List cR}(ht:ts=ns.map λq=>lW q.1 q.2)(hs:∀line env,iA (.Tuple vs kv pv) (some (.Tuple ts k pt)) line env=pure false)(hn:(!(ts.length==2||ts.length==3)||vs.length !=ts.length)=false)(hline:(ns.all λq=>q.2.line==(ts.head?.map (·.pos.line)).getD 0)=true)
  (hd:((ns.map (·.1)).eraseDups.length !=(ns.map (·.1)).length)=false) (hm:∀q∈ns,∃ov,(q.1,.local,ov)∈m) (hc:(vs.any λ| .Starred ..=>true|_=>false)=false) (hf:vs.all (mX 8)=false) (hk:vs.all (rn 8)=false) (hx:∀q∈ns,∀k w,(q.1,k,w)∉F.keep)
  (h:WE F m H (.Tuple vs kv pv) λv H1=>∃ws m',v=.tup ws/\ws.length=ns.length/\SetL m ((ns.map (·.1)).reverse.zip ws.reverse) m'/\KN m' H1):WS1 F KR m H (.Assign [.Tuple ts k pt] (.Tuple vs kv pv) p) KN:=by
 intro D t P s ok;subst ht;have sw:eQ [.Tuple (ns.map λq=>lW q.1 q.2) k pt] (.Tuple vs kv pv) D.env=pure (some (ns.map (·.1))):=by
  have hb:(D.env.blockKind !=.function)=false:=by unfold pX;rw[ok.d.kind];rfl
  have kk:=λq hq=>(hm q hq).elim λ_ e=>(ok.kd e).1;unfold eQ
  dsimp only
  show(if_neg (by rw[hn,hb];decide)).trans ((if_neg λq=>aR (hc.symm.trans q)).trans ?_);rw[Pi (λb b=>rfl) kk hline,if_neg (by rw[hd,aA,aA,bne_self_eq_false];decide),if_neg (by rw[hf];decide),if_neg (by rw[hk];decide)]
 show A0 (A5 ?_);apply @A2 _ _ _ _ Y _ _;show A0 (A1 ?_);show A0 (h.seq ok λx s1 v H1 P1 kk ok1=>?_);rw[sw];show A0 (A1 ?_);obtain⟨ws,m1,rfl,hw,sl,kn⟩:=kk;obtain⟨a,xs,rfl,it,r⟩:=ok1.tup ok1.top;have e:(ns.map (·.1)).length=xs.toArray.size:=by simp only[aA,<- hw,r.len];simp
 simp only[Gg];rw[e];show A0 (Cn (A0 (lf <| wpAny_unpackItems_tuple ok1.d.a.quiet it λh' ex=>?_)));have ok2:=(ok1.pop.grow (n:=s1.toks) (Li ex)).vals (r.rev);have hx':∀x∈(ns.map (·.1)).reverse,∀k w,(x,k,w)∉F.keep:=λx hq=>by
  obtain⟨q,h1,rfl⟩:=aE.mp (oi.mp hq);show hx q h1
 show A0 (A4 (Pj sl hx' (by simp[hw]) r.rev.len ok2 kn) (λb s3 p=>?_) λb b p=>p);obtain⟨m3,H3,P3,k3,ok3⟩:=p;show A1 (.next m3 H3 P3 k3 ok3)
theorem WS1.expr(hs:∀line env,iA e none line env=pure false)(h:WE F m H e λa H1=>KN m H1):WS1 F KR m H (.Expr e p) KN:=λD t P s ok=>
 Iw (h.seq ok λx s1 v H1 P1 k ok1=>.next m H1 P1 k ok1.pop) (by unfold interactive;rw[ok.d.kind];rfl) (hs _ _)
theorem WS1.ret(h:WE F m H e KR):WS1 F KR m H (.Return (some e) p) KN:=λD t P s ok=>Cq (h.seq ok λx s1 v H1 P1 k ok1=>.ret x v H1 P1 k ok1.top ok1.q ok1.sub)
theorem WS1.fq(h:KR .none H):WS1 F KR m H (.Return none p) KN:=λD t P s ok=>lf <| wpAny_Return_none (.ret _ .none H P h rfl ok.q ok.sub)
theorem WS1.ite(h:WT F m H e λc H1=>bif c then WS F KR m H1 b KN else WS F KR m H1 o KN):WS1 F KR m H (.If e b o p) KN:=λD t P s ok=>Tp (h.seq ok λc s1 H1 P1 k ok1=>by
 rcases c
 .show k D t P1 s1 ok1
 .show k D t P1 s1 ok1)
theorem WS1.fh(h:WE F m H o λov H1=>WE F m H1 i λiv H2=>U2 F pR ov iv H2 (KN m)):WS1 F KR m H (.Delete [.Subscript o i tp] p) KN:=by
 intro D t P s ok;apply @A2 _ _ _ _ Y _ _;show Ld (E9 (E4 (h.seq ok λx s1 ov H1 P1 k ok1=>k.seq ok1 λy s2 iv H2 P2 k2 ok2=>A4 (k2 D m t P2 s2 x y ok2) (λa s3 p=>?_) λa a p=>p)));apply Y;obtain⟨H3,P3,k3,ok3⟩:=p.same;show A1 (.next m H3 P3 k3 ok3)
theorem WS1.aug(hm:(x,k,some v0)∈m)(hk:k=.local\/(k=.cell/\F.co=false))(hx:∀k w,(x,k,w)∉F.keep)(h:WE F m H e λv H1=>W2 F (fS op) v0 v H1 λw H2=>∃m',SetAt m x k w m'/\KN m' H2):
  WS1 F KR m H (.AugAssign (.Name x np) op e p) KN:=by
 intro D t P s ok;apply @A2 _ _ _ _ Y _ _;change A2 _ _ (do
  cQ np
  let old <- r8 D.env x;let v <- cN [old] (ch e D.env)
  cQ p
  let new <- jc [old,v] (fS op old v)
  cQ np
  mr D.env x new
  pure oy) _ _ _
 have rd:∀Q:aL->aW->Prop,(∀y,VR P v0 y->Q y s)->A2 F.g.M D.A (r8 D.env x) Q (PX F D) s:=λQ hq=>by
  clear h;apply Y;rcases hk with rfl|⟨rfl,a⟩
  .obtain⟨nsm,hn,hv,a⟩:=ok.loc;obtain⟨c,e,r⟩:=hv x v0 hm;show lf <| wpAny_loadName_local ok.d.kind (ok.kd hm).1 (ok.q.prv _ _ hn).2 e (hq _ r)
  .obtain⟨c,cv,e,e2,e3⟩:=ok.cel x .cell _ hm (.inl rfl);obtain⟨y,rfl,r⟩:=e3 v0 rfl;show lf <| wpAny_loadName_cell ok.d.kind (ok.kd hm).1 e (ok.q.prv _ _ e2).2 (hq _ r)
 show A0 (A5 (A0 (rd _ λy ry=>A0 (A3 (h.seq (ok.push ry) λz s1 v H1 P1 k1 ok1=>A0 (A5 (A0 (Ba (A4 (k1 D m t P1 s1 y z ok1) (λw s2 p=>?_) λa a p=>p)))))))));apply Y;obtain⟨wv,H2,P2,⟨m',hs,kn⟩,ok2⟩:=p;show A0 (A5 (A0 (Dm (ok2.store hs hk hx λP' s' ok'=>A1 (.next m' H2 P' kn ok')))))
theorem WS1.augSub(hi:∀ov iv new,oJ i ov iv new=(do cN [new,ov,iv] (gF ov iv new);jb [new,ov,iv] [];pure oy))
  (h:WE F m H o λov H1=>WE F m H1 i λiv H2=>W2 F i5 ov iv H2 λw0 H3=>WE F m H3 e λv H4=>W2 F (fS op) w0 v H4 λw H5=>U3 F gF ov iv w H5 (KN m)):WS1 F KR m H (.AugAssign (.Subscript o i tp) op e p) KN:=by
 intro D t P s ok;apply @A2 _ _ _ _ Y _ _;show D6 (h.seq ok λx s1 ov H1 P1 k ok1=>k.seq ok1 λy s2 iv H2 P2 k2 ok2=>?_) hi;apply @A2 _ _ _ _ Y _ _;show A4 (k2 D m (.val iv y::.val ov x::t) P2 s2 x y ((ok2.push ok2.top2).push ok2.top)) (λold s3 p=>?_) λa a p=>p;obtain⟨w0,H3,P3,k3,ok3⟩:=p;show k3.seq ok3 λz s4 v H4 P4 k4 ok4=>A4 (k4 D m _ P4 s4 old z ok4) (λw s5 p=>?_) λa a p=>p;apply @A2 _ _ _ _ Y _ _;obtain⟨wv,H5,P5,k5,ok5⟩:=p;show A4 (k5 D m t P5 s5 x y w ok5) (λa s6 p=>?_) λa a p=>p;obtain⟨H6,P6,k6,ok6⟩:=p.same;show .next m H6 P6 k6 ok6
end
section
set_option backward.match.sparseCases false
variable{F:Fx}{D:Dx}{A:dX}{E:aL->aW->Prop}{m m':Loc}{t:List Cl}{H:AH}{P P':PH}{s:aW}{K:V->AH->Prop}{KR:V->AH->Prop}{KN:Loc->AH->Prop}
def PH.turn(P:PH):List (aK×Option jh)->PH
 |[]=>P
 |p::r=>λb=>if b=p.1 then p.2.map .obj else P.turn r b
theorem Gh{S:List (aK×Option jh)}:∀{b:aK},((∀p∈S,b≠p.1)/\(P.turn S) b=P b)\/∃p∈S,b=p.1/\(P.turn S) b=p.2.map .obj:=by
 induction S with
 |nil=>show λ{b}=>.inl {λa h=>(absurd h aD),rfl}
 |cons p r ih=>
  intro b;apply Y;rcases bB (b=p.1) with h|h
  .show .inr {p,.head _,h,if_pos h}
  .have e:(P.turn (p::r)) b=(P.turn r) b:=if_neg h;rcases ih (b:=b) with⟨h1,h2⟩|⟨q,h1,h2,h3⟩
   .show .inl {λq hq=>?_,e.trans h2};rcases aS.mp hq with e8|hq
    .subst e8;show h
    .show h1 q hq
   .show .inr {q,.tail _ h1,h2,e.trans h3}
structure Ts(D:Dx)(t:List Cl)(P:PH)(a:aK):Prop where
 old:D.P₀ a=none
 now:∃o,P a=some (.obj o)
 cl:a∉Cl.addrs t
theorem Ok.turn{S:List (aK×Option jh)}{h':j3}{n:Nat}(ok:Ok F D m t H P s)(hS:∀p∈S,Ts D t P p.1/\∀o,p.2=some o->h'.get? p.1=some o)(hk:∀b o,(∀p∈S,b≠p.1)->s.heap.get? b=some o->h'.get? b=some o):
  Ok F D m t H (P.turn S) {s with heap:=h',toks:=n}:=by
 have keep:∀b p,P b=some p->(∀o,p ≠ .obj o)->(P.turn S) b=some p:=λb p e k=>by
  rcases Gh (P:=P) (S:=S) (b:=b) with⟨i,h⟩|⟨q,h1,rfl,i⟩
  .show h.trans e
  .obtain⟨o,e'⟩:=(hS q h1).1.now;rw[e]at e';clear e;injection e' with e';subst e';show absurd rfl (k o)
 have fr:Fro P (P.turn S):=λb p e k=>keep b p e λo q=>by subst q;rcases k with⟨v,k⟩|⟨v,k⟩<;>contradiction
 have same:=λb o e k=>(hk b o k e).trans e.symm;have q:Rel F.g H (P.turn S) {s with heap:=h',toks:=n}:=by
  apply @Rel _ _ _ Y;show{λb o e=>hk b o (λp hp y=>?_) (ok.q.base b o e),λb o e=>?_,λb p e=>?_,ok.q.gens,ok.q.os}
  .obtain⟨o,e'⟩:=(hS p hp).1.now;simp only[y,(ok.q.prv _ _ e').1 λi h=>nomatch h]at e;show absurd e.symm (aF _)
  .apply Y;obtain⟨z1,z2,z3⟩:=ok.q.own b o e;clear e;rcases Gh (P:=P) (S:=S) (b:=b) with⟨h1,h2⟩|⟨q,h1,rfl,i⟩
   .obtain⟨ob,y⟩:=z3.there;show{z1,h2.trans z2,z3.at fr (same b ob y h1)}
   .obtain⟨o,e'⟩:=(hS q h1).1.now;rw[z2]at e';show absurd e'.symm (aF _)
  .apply Y;rcases Gh (P:=P) (S:=S) (b:=b) with⟨h1,h2⟩|⟨q,h1,rfl,h3⟩
   .rw[h2]at e;obtain⟨z1,z2⟩:=ok.q.prv b p e;obtain⟨ob,y⟩:=z2.there;show{z1,z2.at fr (same b ob y h1)}
   .obtain⟨o,e'⟩:=(hS q h1).1.now;obtain⟨o',e2,rfl⟩:=bF.mp (h3.symm.trans e);show{λi=>(ok.q.prv _ _ e').1 (λi h=>by contradiction),(hS q h1).2 o' e2}
 show{ok.d,q,λb p e=>?_,ok.nm,?_,λx k ov hm hk=>?_,λc hc=>?_,ok.ap}
 .apply Y;rcases Gh (P:=P) (S:=S) (b:=b) with⟨i,h2⟩|⟨q,h1,rfl,i⟩
  .show h2.trans (ok.sub b p e)
  .rw[(hS q h1).1.old]at e;show absurd e.symm (aF _)
 .apply Y;obtain⟨n,e,l,l'⟩:=ok.loc;show{n,keep _ _ e λi q=>(by contradiction),l.mono fr,l'.mono fr}
 .apply Y;obtain⟨c,cv,e1,e2,e3⟩:=ok.cel x k ov hm hk;show{c,cv,e1,keep _ _ e2 λi q=>(by contradiction),λv hv=>(e3 v hv).elim λw y0=>y0.elim λe r=>{w,e,r.mono fr}}
 .induction c using Cl.casesOn with
  |val v y=>show VR.mono fr (ok.stk _ hc)
  |prv a o=>
   apply Y;obtain⟨h1,h2⟩:=ok.stk _ hc;rcases Gh (P:=P) (S:=S) (b:=a) with⟨i,h⟩|⟨q,h3,rfl,i⟩
   .show{h1,h.trans h2}
   .show absurd (cX (f:=Cl.addr).mpr ⟨_,hc,rfl⟩) (hS q h3).1.cl
theorem Ok.apart(ok:Ok F D m (.prv a o::t) H P s):Ts D t P a:=(ok.stk _ (.head _)).elim λh1 h2=>{h1,⟨o,h2⟩,(bX.mp ok.ap).1}
theorem Ok.dg{a:aK}(ok:Ok F D m t H P s)(h1:D.P₀ a=none)(h2:P a=some (.obj o))(h3:a∉Cl.addrs t):Ok F D m (.prv a o::t) H P s:=⟨ok.d,ok.q,ok.sub,ok.nm,ok.loc,ok.cel,λc hc=>by
 rcases aS.mp hc with e8|hc
 .subst e8;show⟨h1,h2⟩
 .show ok.stk c hc,bX.mpr {h3,ok.ap}⟩
theorem Ok.take{a:aK}{p:PO}(ok:Ok F D m t H P s)(e0:F.g.base.get? a=none)(e1:H a=none)(e2:P a=none)(n:PR F.g (P.set a p) s.heap a p):Ok F D m t H (P.set a p) s/\D.P₀ a=none/\a∉Cl.addrs t:=by
 have fr:Fro P (P.set a p):=.new e2;show{ok.on {ok.q.base,λb o e=>?_,λb p' e=>?_,ok.q.gens,ok.q.os} (PH.new e2),?_,λhm=>?_}
 .apply Y;obtain⟨z1,z2,z3⟩:=ok.q.own b o e;show{z1,(if_neg λy=>by simp only[y,e1]at e;show absurd e.symm (aF _)).trans z2,z3.at fr rfl}
 .unfold PH.set at e;split at e
  .next y=>clear e1 e2 fr;rw[y];injection e with e;subst e;show{λd=>e0,n}
  .obtain⟨z1,z2⟩:=ok.q.prv b p' e;show{z1,z2.at fr rfl}
 .induction y:D.P₀ a using Option.casesOn with
  |none=>rfl
  |some q=>rw[ok.sub a q y]at e2;show absurd e2 (aF _)
 .obtain⟨c,hc,hca⟩:=cX.mp hm
  induction c using Cl.casesOn with
  |val=>contradiction
  |prv b o=>injection hca with hca;subst hca;rw[(ok.stk _ hc).2]at e2;show absurd e2 (aF _)
theorem Ok.make{o:jh}{n:Nat}(ok:Ok F D m t H P s)(hf:o.isFreed=false):Ok F D m (.prv s.heap.objs.size o::t) H (P.set s.heap.objs.size (.obj o)) {s with heap:=s.heap.push o,toks:=n}:=by
 apply Y;obtain⟨e1,e2,e0⟩:=ok.q.fresh (Ak (bC _));obtain⟨ok',h1,h2⟩:=(ok.grow (h':=s.heap.push o) (n:=n) λb q e=>bA _ e).take (p:=.obj o) e0 e1 e2 (bI _ hf);show ok'.dg h1 (if_pos rfl) h2
def AsL(H:AH):V->Option aK->List V->Prop
 |.list xs,o,ys=>o=none/\ys=xs
 |.ref a,o,ys=>o=some a/\H a=some (.list ys)
 |_,_,_=>False
theorem Ok.asL{o:Option aK}{xs:List V}(ok:Ok F D m t H P s)(as:AsL H v o xs)(r:VR P v x):∃l vs,x=.ref l/\s.heap.PlainList l vs.toArray/\VRs P xs vs:=by
 apply Y;induction v using V.casesOn with
 |list ys=>
  obtain⟨rfl,rfl⟩:=as;obtain⟨l,rfl,e⟩:=r;obtain⟨vs,il,r⟩:=(ok.q.prv l _ e).2;show⟨l,vs,rfl,il,r⟩
 |ref a=>
  obtain⟨rfl,e⟩:=as;subst r;obtain⟨vs,il,r⟩:=(ok.q.own a _ e).2.2;show⟨a,vs,rfl,il,r⟩
 |_=>show as.elim
theorem VRs.get{vs:List aL}(r:VRs P xs vs)(i:Nat):(xs[i]?=none/\vs[i]?=none)\/∃v x,xs[i]?=some v/\vs[i]?=some x/\VR P v x:=by
 induction r generalizing i with
 |nil=>show .inl ⟨rfl,rfl⟩
 |@cons v x vs xs h _ ih=>induction i using Nat.casesOn with
  |zero=>show .inr ⟨v,x,rfl,rfl,h⟩
  |succ i=>show ih i
set_option genCtorIdx true in
inductive Sq where
 |vals(o:Option aK)(xs:List V)|rng (a c:Int) (n:Nat)|enum (o:Option aK) (xs:List V)|rev (b:List UInt8)
def Sq.at:Sq->Nat->Option V
 |.vals _ xs,i=>xs[i]?
 |.rng a c n,i=>if i<n then some (.int (a+i*c)) else none
 |.enum _ xs,i=>xs[i]?.map λx=>.tup [.int i,x]
 |.rev b,i=>if i<b.length then some (.int (b.getD (b.length-1-i) 0).toNat) else none
def Sq.len:Sq->Nat
 |.vals _ xs=>xs.length
 |.rng _ _ n=>n
 |.enum _ xs=>xs.length
 |.rev b=>b.length
def Sq.stays:Sq->AH->Prop
 |.vals (some a) xs,H=>H a=some (.list xs)
 |.enum (some a) xs,H=>H a=some (.list xs)
 |_,_=>True
inductive Fits:Sq->cR->Prop
 |vals{o xs x p}:Fits (.vals o xs) (.Name x p)
 |valsT{o xs el k p}:Fits (.vals o xs) (.Tuple el k p)
 |rng{a c n x p}:Fits (.rng a c n) (.Name x p)
 |rev{b x p}:Fits (.rev b) (.Name x p)
 |enum{o xs el k p}:Fits (.enum o xs) (.Tuple el k p)
def lsV:Option aK->List V->V
 |none,xs=>.list xs
 |some a,_=>.ref a
noncomputable abbrev isLI (l:aK) (i:Nat) (o:jh):Prop:=o.cls=.type "list_iterator"/\o.data=.fields #[↑l,.int i 0]
inductive It:Sq->Nat->aK->List Cl->Prop
 |vals{ow xs i I l o}(h:isLI l i o):It (.vals ow xs) i I [.prv I o,.val (lsV ow xs) ↑l]
 |rng{a c n i I}:It (.rng a c n) i I [.prv I {cls:=.type "range_iterator",dict:=none,data:=.fields #[cZ (a+i*c),cZ ((n:Int)-i),cZ c],slots:=#[]}]
 |enum{ow xs i I J l old o}(h:isLI l i o):It (.enum ow xs) i I [.prv I {cls:=.type "enumerate",dict:=none,data:=.fields #[.none,.bool false,↑J,cZ i,.none,old],slots:=#[]},.prv J o,.val (lsV ow xs) ↑l]
 |rev{b i I o t}(hz:b.length<=2^20/\i<=b.length)(hc:o.cls=.type "reversed")(hd:o.data=.fields #[.bytes b.toArray t,cZ ((b.length:Int)-1-i)]):It (.rev b) i I [.prv I o]
theorem Ok.ls(ok:Ok F D m t H P s)(r:VR P (lsV ow xs) ↑l)(hst:∀a,ow=some a->H a=some (.list xs)):∃vs,s.heap.IsList l vs.toArray/\VRs P xs vs:=by
 apply Y;obtain⟨b,vs,e,il,rs⟩:=ok.asL (xs:=xs) (o:=ow) (show AsL H (lsV ow xs) ow xs by induction ow using Option.casesOn with|none=>show⟨rfl,rfl⟩|some a=>show{rfl,hst a rfl}) r;injection e with e;subst e;show{vs,il.isList,rs}
structure Nx(F:Fx)(D:Dx)(A:dX)(m:Loc)(t:List Cl)(H:AH)(tg:cR)(sq:Sq)(i:Nat)(I:aK)(Q:Option aL->aW->Prop):Prop where
 stop:sq.at i=none->∀P' s',Ok F D m t H P' s'->Q none s'
 item:∀v,sq.at i=some v->∀y s₁,(∀(E:aL->aW->Prop)(Q':Unit->aW->Prop),(∀P' s' cs',It sq (i+1) I cs'->Ok F D m (.val v y::cs'++t) H P' s'->Q' () s')->A2 F.g.M A (lQ tg ↑I y) Q' E s₁)->Q (some y) s₁
section
variable{i:Nat}{I a b:aK}{tg:cR}{Q:Option aL->aW->Prop}{o o':Option jh}{h':j3}{n:Nat}
theorem O4{S:List (aK×Option jh)}(h:∀p∈S,∃o,P p.1=some (.obj o)):Fro P (P.turn S):=λb p e k=>by
 apply Y;rcases Gh (P:=P) (S:=S) (b:=b) with⟨a,h'⟩|⟨q,h1,rfl,a⟩
 .show h'.trans e
 .obtain⟨o,e'⟩:=h q h1;obtain rfl:=bL (bP (eG e') e);rcases k with⟨a,k⟩|⟨a,k⟩<;>contradiction
theorem one{R:aK×Option jh->Prop}(h:R (a,o)):∀p∈[(a,o)],R p:=λp hp=>by
 rcases aS.mp hp with e8|hp
 .subst e8;show h
 .show absurd hp aD
theorem two{R:aK×Option jh->Prop}(h:R (a,o))(h2:R (b,o')):∀p∈[(a,o),(b,o')],R p:=λp hp=>by
 rcases aS.mp hp with e8|hp
 .subst e8;show h
 .show one h2 p hp
theorem Ok.dw{c:jh}(ok:Ok F D m t H P s)(ap:Ts D t P I)(e:h'.get? I=some c)(sb:∀b o,b≠I->s.heap.get? b=some o->h'.get? b=some o){v:V}{y:aL}(ry:VR P v y):Ok F D m (.val v y::.prv I c::t) H (P.turn [(I,some c)]) {s with heap:=h',toks:=n}:=
 ((ok.turn (S:=[(I,some c)]) (one {ap,λa q=>by injection q with q;subst q;show e}) λb q n e=>sb b q (n _ (.head _)) e).dg ap.old (if_pos rfl) ap.cl).push (ry.mono (O4 (one ap.now)))
theorem Ok.dc(ok:Ok F D m t H P s)(ap:Ts D t P I)(sb:∀b o,b≠I->s.heap.get? b=some o->h'.get? b=some o):Ok F D m t H (P.turn [(I,none)]) {s with heap:=h',toks:=n}:=
 ok.turn (S:=[(I,none)]) (one {ap,λa q=>absurd q.symm (aF _)}) λb q n e=>sb b q (n _ (.head _)) e
theorem Ok.obj(ok:Ok F D m (.prv I c::t) H P s):s.heap.get? I=some c:=(ok.q.prv _ _ (ok.stk _ (.head _)).2).2
theorem Lk(sb:cP I h h'):∀b o,b≠I->h.get? b=some o->h'.get? b=some o:=λb a n e=>(sb.2 b n).trans e
theorem It.nextV{o:jh}(h:isLI l i o)(ok:Ok F D m (.prv I o::.val (lsV ow xs) ↑l::t) H P s)(hq:A.handled=none)(hst:(Sq.vals ow xs).stays H)(ft:Fits (.vals ow xs) tg)(x:Nx F D A m t H tg (.vals ow xs) i I Q):A2 F.g.M A (kD ↑I) Q E s:=by
 apply Y;have ap:=ok.apart;obtain⟨vs,hl,r⟩:=ok.pop.ls ok.pop.top (λa e=>by clear ok ft x ap;subst e;show hst);have il:s.heap.IsListIter I l i:={o,ok.obj,h};rcases r.get i with⟨e,e'⟩|⟨v,y,e,ey,ry⟩
 .show lf <| wpAny_pyNext_list_end hq il hl (by rw[eU];show e') λh' ex=>x.stop e _ _ (ok.pop.pop.dc (n:=s.toks) {ap.old,ap.now,ap.cl} λb o n e=>ex b o n e)
 .show lf <| wpAny_pyNext_list_item il hl (x:=y) (by rw[eU];show ey) λh' il' sb=>?_;obtain⟨o',eo,ho'⟩:=id il';show x.item v e y _ λE Q' hq'=>?_;have fin:=hq' _ _ _ (.vals ho') (ok.pop.dw (n:=s.toks) ap eo (Lk sb) ry);clear x;cases ft with
  |vals=>show A1 fin
  |valsT=>clear P o h ok hq hst ap vs hl r il v e ey ry o' eo ho' hq';induction y using PySem.Value.casesOn with
   |ref T=>show lf <| wpAny_letOwnedTupleGo_listiter (s:={s with heap:=h'}) il' fin
   |_=>show A1 fin
theorem It.nextR{a c:Int}{k:Nat}(ok:Ok F D m (.prv I {cls:=.type "range_iterator",dict:=none,data:=.fields #[cZ (a+i*c),cZ ((k:Int)-i),cZ c],slots:=#[]}::t) H P s)(hq:A.handled=none)(ft:Fits (.rng a c k) tg)(x:Nx F D A m t H tg (.rng a c k) i I Q):
  A2 F.g.M A (kD ↑I) Q E s:=by
 by_cases hi:i<k
 .show lf <| wpAny_pyNext_range_item ok.obj (lin 0x5044d9d0540d82 263 tt hi) λh' ir' sb=>?_;simp only[show a+(i:Int)*c+c=a+((i+1:Nat):Int)*c by simp only[Int.natCast_add,qW];lia,show(k:Int)-(i:Int)-1=(k:Int)-((i+1:Nat):Int) by show lin 0x3a74a8a81f4e82a042 7175 tt]at ir';rcases ft;show x.item _ (if_pos hi) _ _ λE Q' hq'=>A1 (hq' _ _ _ .rng (ok.pop.dw (n:=s.toks+1) (v:=.int _) (ok.apart) ir' (Lk sb) ⟨_,rfl⟩))
 .show lf <| wpAny_pyNext_range_end hq ok.obj (lin 0x105044cb4e82a042 263 tt hi) λh' ex=>x.stop (if_neg hi) _ _ (ok.pop.dc (n:=s.toks) (ok.apart) λb o n e=>ex b o n e)
theorem It.nextB{b:List UInt8}{o:jh}{tk:qi}(hz:b.length<=2^20/\i<=b.length)(hc:o.cls=.type "reversed")(hd:o.data=.fields #[.bytes b.toArray tk,cZ ((b.length:Int)-1-i)])(ok:Ok F D m (.prv I o::t) H P s)(hq:A.handled=none)(ft:Fits (.rev b) tg)(x:Nx F D A m t H tg (.rev b) i I Q):
  A2 F.g.M A (kD ↑I) Q E s:=by
 by_cases hi:i<b.length
 .have e9:((b.length-1-i:Nat):Int)=(b.length:Int)-1-i:=by rw[pW (Nat.le_sub_one_of_lt hi),pW (oa hi)];rfl
  show lf <| Jr (i:=b.length-1-i) (dW (sub_le _ _) (rr (oa hi) qR)) hz.1 {o,tk,ok.obj,hc,e9.symm▸hd} λh' t' k ir' sb=>?_;simp only[show((b.length-1-i:Nat):Int)-1=(b.length:Int)-1-((i+1:Nat):Int) by show lin 0x1d3a0fd41502e9d2a3f505ea043 9699623 tt e9]at ir';obtain⟨o',tk',eo,hc',hd'⟩:=ir';rcases ft;show x.item _ (if_pos hi) _ _ λE Q' hq'=>A1 (hq' _ _ _ (.rev (t:=tk') {hz.1,hi} hc' hd') (ok.pop.dw (n:=k) (v:=.int _) (ok.apart) eo (Lk sb) ⟨_,rfl⟩))
 .show lf <| L7 hq {o,tk,ok.obj,hc,(show(b.length:Int)-1-i = -1 by show lin 0x3d211274182822717b79d05ea042 10748233 tt hz hi)▸hd} λh' ex=>x.stop (if_neg hi) _ _ (ok.pop.dc (n:=s.toks) (ok.apart) λb o n e=>ex b o n e)
theorem It.nextE{old:aL}{o:jh}(h:isLI l i o)(ok:Ok F D m (.prv I {cls:=.type "enumerate",dict:=none,data:=.fields #[.none,.bool false,↑J,cZ i,.none,old],slots:=#[]}::.prv J o::.val (lsV ow xs) ↑l::t) H P s)
  (hq:A.handled=none) (hst:(Sq.enum ow xs).stays H) (ft:Fits (.enum ow xs) tg) (x:Nx F D A m t H tg (.enum ow xs) i I Q):A2 F.g.M A (kD ↑I) Q E s:=by
 apply Y;have ap:=ok.apart;have aj:=ok.pop.apart;have ie:=ok.obj;have il:s.heap.IsListIter J l i:={o,ok.pop.obj,h};obtain⟨vs,hl,r⟩:=ok.pop.pop.ls ok.pop.pop.top (λa e=>by clear J l old o h ok hq ft x ap aj ie il;subst e;show hst);have ne:I≠J:=λy=>ap.cl (y▸.head _);rcases r.get i with⟨e,e'⟩|⟨v,y,e,ey,ry⟩
 .show lf <| wpAny_pyNext_enum_end hq ie il hl (by rw[eU];show e') λh' ex=>x.stop (by change xs[i]?.map _=none;simp only[e];rfl) _ _ (ok.pop.pop.pop.dc (n:=s.toks) {aj.old,aj.now,aj.cl} λb o n e=>ex b o n e)
 .show lf <| wpAny_pyNext_enum_item ie il hl (x:=y) (by rw[eU];show ey) ne λh' ieo il' tup hz kp=>?_;show x.item (.tup [.int i,v]) (by change xs[i]?.map _=_;simp only[e];rfl) _ _ λE Q' hq'=>?_;apply @A2 _ _ _ _ _ _ Y;clear hq hst x ie il vs hl r ey hz;apply Y;rcases ft;show lf <| wpAny_letOwnedTupleGo_enum (s:={s with heap:=h',toks:=s.toks+1}) ieo λh'' ie' sb=>?_;obtain⟨o',eo,ho'⟩:=il';obtain⟨oI,eI,hoI⟩:∃oI,h''.get? I=some oI/\oI=_:=⟨_,ie',rfl⟩;obtain⟨e1,e2,e0⟩:=ok.q.fresh (Ak (h:=s.heap) (bC _));have szI:s.heap.objs.size≠I:=λq=>by rw[q,(ok.stk _ (.head _)).2]at e2;contradiction
  have szJ:s.heap.objs.size≠J:=λq=>by rw[q,(ok.stk _ (.tail _ (.head _))).2]at e2;show absurd e2 (aF _)
  have ok':=ok.pop.pop.turn (S:=[(I,some oI),(J,some o')]) (h':=h'') (n:=s.toks+1)
   (two {{ap.old,ap.now,λq=>ap.cl (.tail _ q)},λc q=>by injection q with q;subst q;show eI} {aj,λc q=>by injection q with q;subst q;show(sb.2 J (fQ ne)).trans eo})
   λb q n e=>(sb.2 b (n _ (.head _))).trans (kp b q (n _ (.head _)) (n _ (.tail _ (.head _))) e)
  have ry':=ry.mono (O4 (S:=[(I,some oI),(J,some o')]) (two ap.now aj.now));obtain⟨ok3,_,_⟩:=((ok'.dg aj.old ((if_neg (fQ ne)).trans (if_pos rfl)) aj.cl).dg ap.old (if_pos rfl) ap.cl).take (a:=s.heap.objs.size) (p:=.fro (.tup [.int i,v])) e0 e1 ((if_neg szI).trans ((if_neg szJ).trans e2))
   {[.int i s.toks,y],{_,(sb.2 _ szI).trans tup,rfl,_,rfl},.cons ⟨_,rfl⟩ (.cons (ry'.mono (.new ((if_neg szI).trans ((if_neg szJ).trans e2)))) .nil)}
  rw[hoI]at ok3;show hq' _ _ _ (.enum (i:=i+1) ho') (ok3.push {_,rfl,if_pos rfl})
theorem It.next(it:It sq i I cs)(ok:Ok F D m (cs++t) H P s)(hq:A.handled=none)(hst:sq.stays H)(ft:Fits sq tg)(x:Nx F D A m t H tg sq i I Q):A2 F.g.M A (kD ↑I) Q E s:=by
 apply Y;induction it using It.casesOn with
 |vals h=>show It.nextV h ok hq hst ft x
 |rng=>show It.nextR ok hq ft x
 |rev hz hc hd=>show It.nextB hz hc hd ok hq ft x
 |enum h=>show It.nextE h ok hq hst ft x
end
inductive PI(F:Fx)(D:Dx)(m:Loc)(t:List Cl)(K:Sq->AH->Prop)(x:aL)(s:aW):Prop
 |mk(sq:Sq)(H:AH)(P:PH)(I:aK)(cs:List Cl)(e:x=.ref I)(k:K sq H)(it:It sq 0 I cs)(ok:Ok F D m (cs++t) H P s)
def WI(F:Fx)(m:Loc)(H:AH)(iter:cR)(K:Sq->AH->Prop):Prop:=
 ∀D t P s,Ok F D m t H P s->A2 F.g.M D.A (ch iter D.env) (λx s1=>A2 F.g.M D.A (jD x) (PI F D m t K) (PX F D) s1) (PX F D) s
theorem Sq.c7{sq:Sq}(e:sq.at i=some v):i<sq.len:=by
 induction sq using Sq.casesOn with
 |vals o xs=>show(aI.mp e).1
 |rng a c n=>show eN λh=>by rw[show(Sq.rng a c n).at i=none from if_neg h]at e;show nomatch e
 |rev b=>show eN λh=>by rw[show(Sq.rev b).at i=none from if_neg h]at e;show nomatch e
 |enum o xs=>obtain⟨x,q,d⟩:=bF.mp e;show(aI.mp q).1
inductive Lp(F:Fx)(D:Dx)(t:List Cl)(J:Sq->Nat->Loc->AH->Prop)(sq:Sq)(I:aK)(k:Nat)(s:aW):Prop
 |mk(i:Nat)(m:Loc)(H:AH)(P:PH)(cs:List Cl)(j:J sq i m H)(it:It sq i I cs)(ok:Ok F D m (cs++t) H P s)(hi:i<=sq.len)(e:k=sq.len+1-i)
theorem WS1.for(hco:F.co=false)(J:Sq->Nat->Loc->AH->Prop)(hs:∀env x,bN iter env x=pure x)
  (h:WI F m H iter λsq H1=>Fits sq target/\J sq 0 m H1)
  (hst:∀sq i m' H',J sq i m' H'->sq.stays H')
  (step:∀sq i m' H' v,J sq i m' H'->sq.at i=some v->WG F m' H' target v λm2 H2=>WS F KR m2 H2 body λm3 H3=>J sq (i+1) m3 H3)
  (fin:∀sq i m' H',J sq i m' H'->sq.at i=none->KN m' H'):WS1 F KR m H (.For target iter body [] p) KN:=by
 intro D t P s ok;have po:=PX.passes ok.d hco;show Qp (A4 (h D t P s ok) (λx s1 h1=>A4 h1 (λit s2 p=>?_) λb b p=>p) λb b p=>p) (hs D.env);apply @Ae _ _ _ Y _;obtain⟨sq,H',P',I,cs,rfl,⟨ft,j⟩,it,ok'⟩:=p;show Fd (Lp F D t J sq I) ?_ (sq.len+1) {0,m,H',P',cs,j,it,ok',bV _,rfl};rintro k s' ⟨i,m',H',P',cs,j,it,ok',hi,rfl⟩;apply @A2 _ _ _ _ _ Y _;show Ht po (it.next ok' ok'.d.a.quiet (hst _ _ _ _ j) ft {λe P3 s3 ok3=>Db (.next m' H' P3 (fin _ _ _ _ j e) ok3),λv e y s3 hl=>hl _ _ λP4 s4 cs' it' ok4=>?_});show(let K4:=_;let K5:=_;(?_:@A2 _ _ _ _ K4 K5 _));show A4 (step sq i m' H' v j e D _ P4 s4 y ok4) (λb s5 p=>?_) po;obtain⟨m2,H2,P5,k2,ok5⟩:=p;show A4 (k2 D _ P5 s5 ok5) (λfl s6 q=>?_) po
 induction q using PS.casesOn with
 |next m3 H3 P6 k3 ok6=>show{sq.len+1-(i+1),ji _ _ (k9 (Sq.c7 e)),i+1,m3,H3,P6,cs',k3,it',ok6,Sq.c7 e,rfl}
 |ret x v' H3 P6 k3 r3 q3 sub=>show .ret x v' H3 P6 k3 r3 q3 sub
end
section
variable{F:Fx}{D:Dx}{A:dX}{E:aL->aW->Prop}{m m':Loc}{t:List Cl}{H:AH}{P P':PH}{s:aW}{K:Sq->AH->Prop}
theorem Bd{h:j3}(o:jh):∀b q,h.get? b=some q->(h.push o).get? b=some q:=λb q e=>bA _ e
theorem asV(as:AsL H v o xs):lsV o xs=v:=by
 induction v using V.casesOn with
 |list=>obtain⟨rfl,rfl⟩:=as;rfl
 |ref=>obtain⟨rfl,a⟩:=as;rfl
 |_=>show as.elim
theorem WI.list(h:WE F m H e λv H1=>∃o xs,AsL H1 v o xs/\K (.vals o xs) H1):WI F m H e K:=λD t P s ok=>h.seq ok λx s1 v H1 P1 k ok1=>by
 apply Y;obtain⟨o,xs,as,k⟩:=k;obtain⟨l,vs,rfl,il,rs⟩:=ok1.asL as ok1.top;have ok2:=ok1.make (o:={cls:=.type "list_iterator",data:=.fields #[↑l,.int 0 0]}) (n:=s1.toks) rfl;show lf <| wpAny_pyIter_list il.isList {_,H1,_,_,_,rfl,k,.vals ⟨rfl,rfl⟩,asV as▸ok2}
def WIc(F:Fx)(c:aL)(vs:List V)(H:AH)(K:Sq->AH->Prop):Prop:=
 ∀D m t P s xs(Q:aL->aW->Prop),Ok F D m t H P s->VRs P vs xs->(∀y s',A2 F.g.M D.A (jD y) (PI F D m t K) (PX F D) s'->Q y s')->A2 F.g.M D.A (l5 c xs) Q (PX F D) s
theorem WI.be(G:BltF x c)(hs:NoStars args)(hm:(x,.globalImplicit,ov)∈m)(h:WEs F m H args λvs H1=>WIc F c vs H1 K):WI F m H (.Call (.Name x np) args [] pos) K:=
 λD t P s ok=>Ar (G.load hm ok (Cr hs (λh a=>{.machine,.inr (.inl rfl),.of_pure G.fv}) h ok λvs H1 P1 s1 xs k r ok1=>k D m t P1 s1 xs _ ok1 r λy s' h=>h))
def Eg(a b c:Int):Nat:=if a<b then ((b-a-1) / c+1).toNat else 0
theorem Hy{a b c:Int}(hc:0<c):(Eg a b c:Int)=eY a b c:=by
 unfold eY Eg;rw[if_pos hc];split
 .have:0<=(b-a-1) / c:=pp (lin 926228930768272 263 tt ‹_›) (cO ‹_›);show lin 0x754b40baa5a049 9699623 tt (bD (lin 836874087816 263 tt this))
 .rfl
theorem Tt(ha:-(2^40)<=a/\a<=2^40)(hb:-(2^40)<=b/\b<=2^40)(hc:0<c/\c<=2^40):kR a b c=true:=by
 have hs:=Hy (a:=a) (b:=b) hc.1;have hl:eY a b c<=2^42:=by
  rw[<- hs];unfold Eg;clear hc hs;split
  .have:=oR (a:=b-a-1) c (lin 926228930768272 263 tt ‹_›);show gf.mpr (qn.mpr (show _<=((2^42:Nat):Int) by show lin 0x3d81408fd3b0e5e85023f5ec0a047e99862f42811facf4ce62b281508fda958 404807 tt ha hb this))
  .decide
 unfold kR;simp only[qr,kA,oU,decide_eq_true_eq,hc.1,if_true];show{{{{{by lia,by lia},by lia,by lia},by show lin 0x1ec0a047e95a5b30a5e87e23f48 295 tt hc,by lia},by show lin 0x38b40b0a5e87e23f49 9441 tt hs,by show lin 0x605423f4ad0fc47e948 263 tt hl},.inr {by show lin 0x1ec0a047e95852f42811faf605023f4cd35992f18a5e87e23f50 11559 tt hb hc,by show lin 0x7b02811fa5614bd0a047ebd81408fd334d6687e23f65e3150 11592 tt hb hc}}
theorem O5{a b c:Int}(ha:-(2^40)<=a/\a<=2^40)(hb:-(2^40)<=b/\b<=2^40)(hc:0<c/\c<=2^40)(hr:IsRange s.heap r a b c u v w)(ok:Ok F D m t H P s)(k:K (.rng a c (Eg a b c)) H):A2 F.g.M D.A (jD ↑r) (PI F D m t K) (PX F D) s:=by
 have ok':=ok.make (o:={cls:=.type "range_iterator",dict:=none,data:=.fields #[cZ a,cZ (eY a b c),cZ c],slots:=#[]}) (n:=s.toks) rfl;have it:=@It.rng a c (Eg a b c) 0 s.heap.objs.size;rw[show a+((0:Nat):Int)*c=a by simp,show((Eg a b c:Nat):Int)-((0:Nat):Int)=eY a b c by rw[<- Hy hc.1];simp]at it;show lf <| wpAny_pyIter_range hr (Tt ha hb hc) ⟨_,H,_,_,_,rfl,k,it,ok'⟩
theorem VRs.one(r:VRs P [v] xs):∃x,xs=[x]/\VR P v x:=by
 apply Y;cases r with
 |cons h t=>rcases t;show⟨_,rfl,h⟩
theorem VRs.two{v w:V}{xs:List aL}(r:VRs P [v,w] xs):∃x y,xs=[x,y]/\VR P v x/\VR P w y:=by
 apply Y;cases r with
 |cons h t=>obtain⟨y,rfl,r⟩:=t.one;show⟨_,y,rfl,h,r⟩
theorem VRs.three(r:VRs P [v,w,u] xs):∃x y z,xs=[x,y,z]/\VR P v x/\VR P w y/\VR P u z:=by
 apply Y;cases r with
 |cons h t=>obtain⟨y,z,rfl,r,q⟩:=t.two;show⟨_,y,z,rfl,h,r,q⟩
theorem WIc.d9(hb:-(2^40)<=b/\b<=2^40)(k:K (.rng 0 1 (Eg 0 b 1)) H):WIc F (.type "range") [.int b] H K:=by
 intro D m t P s xs Q ok r hq;obtain⟨c,rfl,t,rfl⟩:=r.one;show lf <| call_range_1 (hq _ _ (O5 (a:=0) (dte tt) hb '#' (pi ..) (ok.grow (Bd _)) k))
theorem WIc.range3(ha:-(2^40)<=a/\a<=2^40)(hb:-(2^40)<=b/\b<=2^40)(hc:0<c/\c<=2^20)(k:K (.rng a c (Eg a b c)) H):WIc F (.type "range") [.int a,.int b,.int c] H K:=by
 apply @WIc _ _ Y _ _;intro D m t P s xs Q ok r hq;apply Y;obtain⟨d,d,d,rfl,⟨t,rfl⟩,⟨u,rfl⟩,w,rfl⟩:=r.three;show lf <| call_range_3 (lin 0xf668ad2da0eb148 295 tt hc) (hq _ _ (O5 ha hb {hc.1,(bH (cL ‹_›) '#')} (pi ..) (ok.grow (Bd _)) k)) (.inl (fD (by omega)))
theorem WIc.enum{o:Option aK}(as:AsL H v o ys)(k:K (.enum o ys) H):WIc F (.type "enumerate") [v] H K:=by
 intro D m t P s xs Q ok r hq;apply Y;obtain⟨a,rfl,r1⟩:=r.one;clear r;obtain⟨l,vs,rfl,il,rs⟩:=ok.asL as r1;show lf <| call_enumerate_list il.isList λh' ie il' sz kp=>hq _ _ (lf <| wpAny_pyIter_enum (s:={s with heap:=h'}) ie ?_);apply Y;obtain⟨o',eo,ho⟩:=il';have n1:=Ak (h:=s.heap) (bC _);have n2:=Ak (h:=s.heap) (jS _);obtain⟨a1,a2,a0⟩:=ok.q.fresh n1;obtain⟨b1,b2,b0⟩:=ok.q.fresh n2;have ok1:=(ok.push r1).grow (n:=s.toks) kp;obtain⟨ok2,c1,c2⟩:=ok1.take (p:=.obj _) a0 a1 a2 eo;obtain⟨ok4,d1,d2⟩:=(ok2.dg c1 (if_pos rfl) c2).take (p:=.obj _) b0 b1 ((if_neg (oM _)).trans b2) ie;show{_,H,_,_,_,rfl,k,.enum ho,asV as▸ok4.dg d1 (if_pos rfl) d2}
theorem WIc.rev(hz:b.length<=2^20)(k:K (.rev b) H):WIc F (.type "reversed") [.bytes b] H K:=by
 intro D m t P s xs Q ok r hq;obtain⟨a,rfl,tk,rfl⟩:=r.one;show lf <| Js hz λtk' ir=>hq _ _ (lf <| J4 ir ?_);show{_,H,_,_,_,rfl,k,.rev {hz,bV _} rfl (by rw[show((b.length:Int)-1-((0:Nat):Int))=(b.length:Int)-1 by show lin 0x77a819d2dea041 7175 tt]),ok.make rfl}
end
section
set_option backward.match.sparseCases false
variable{F:Fx}{D:Dx}{m m':Loc}{t:List Cl}{H:AH}{P P':PH}{s:aW}{K:V->AH->Prop}{KR:V->AH->Prop}{KN:Loc->AH->Prop}{es:List cR}{p:ki}
theorem szl:dM=2^24:=rfl
theorem szL{n m:Nat}(h:n<=2^20)(e:n=m):m<=dM:=e▸aC h (nle tt)
theorem k3(P:g7):(Am P).lookup 3=some (kO3 P):=rfl
theorem Ok.nsm(ok:Ok F D m t H P s):s.heap.objs.size≠kB:=λe=>absurd (gb (ok.bp _ _ (k3 _))) (by rw[e];decide)
theorem Ok.data{o:jh}{n:Nat}(ok:Ok F D m t H P s)(k:K v H)(hf:o.isFreed=false)(hv:∀P,VR P v ↑s.heap.objs.size↔P s.heap.objs.size=some (.fro v))(n0:∀P',Fro P P'->PR F.g P' (s.heap.push o) s.heap.objs.size (.fro v)):PV F D m t K ↑s.heap.objs.size {s with heap:=s.heap.push o,toks:=n}:=by
 apply Y;obtain⟨e1,e2,e0⟩:=ok.q.fresh (Ak (bC _));obtain⟨ok',b,b⟩:=(ok.grow (h':=s.heap.push o) (n:=n) (Bd o)).take (p:=.fro v) e0 e1 e2 (n0 _ (.new e2));show ok'.val k ((hv _).mpr (if_pos rfl))
theorem Ok.own{a:AObj}{o:jh}{n:Nat}(ok:Ok F D m t H P s)(hf:o.isFreed=false)(n0:OR F.g P (s.heap.push o) s.heap.objs.size a):H s.heap.objs.size=none/\Ok F D m t (H.set s.heap.objs.size a) P {s with heap:=s.heap.push o,toks:=n}:=
 {(ok.q.fresh (Ak (bC _))).1,ok.same (ok.q.bb (Bd o) (Ak (bC _)) n0)}
theorem N3:(∃b,lN a=.ref b/\P b=some (.fro v))↔P a=some (.fro v):={λz9=>z9.elim λb y0=>y0.elim λe h=>by clear y0;apply Y;injection e with e;subst e;show h,λh=>⟨a,rfl,h⟩}
theorem WE.tup{k:Nat}(h:WEs F m H es λvs H1=>vs.length<=2^20/\K (.tup vs) H1):WE F m H (.Tuple es k p) K:=λD t P s ok=>Fe (A4 (h D t P s p ok) (λxs s1 q=>by
 apply Y;obtain⟨vs,H1,P1,⟨hl,k⟩,r,ok1⟩:=q;show{szL hl r.len,ok1.data (n:=s1.toks) k rfl (λa=>N3) λP' f=>{xs,{_,bI _ rfl,rfl,_,rfl},r.mono f}}) λa a p=>p)
theorem WE.b6(hv:v=.ae []\/v=.aa [])(h:K v H):WE F m H (.Dict [] [] p) K:=λD t P s ok=>lf <| wpAny_Dict_empty (by
 apply @PV _ _ _ _ _ _ Y;rcases hv with rfl|rfl<;>show ok.data (n:=s.toks) h rfl (λa=>N3) λP' f=>{[],ok.nsm,fX _,.nil})
theorem WE.dict0O(ho:o=.ae []\/o=.aa [])(h:∀a,H a=.none->K ↑a (H.set a o)):WE F m H (.Dict [] [] p) K:=λD t P s ok=>lf <| wpAny_Dict_empty (by
 have e:H s.heap.objs.size=.none/\Ok F D m t (H.set s.heap.objs.size o) P {s with heap:=s.heap.push {cls:=.type "dict",data:=.dict #[]},toks:=s.toks}:=by
  clear h;rcases ho with rfl|rfl<;>show ok.own rfl {[],ok.nsm,fX _,.nil}
 show e.2.val (h _ e.1) rfl)
def Jx(env:oT)(pos:ki):List (Option cR)->List cR->List (kh aL×kh aL)
 |some k::ks,v::vs=>(ch k env,do let x <- ch v env;cQ pos;pure x)::Jx env pos ks vs
 |_,_=>[]
class inductive Disp:List (Option cR)->List cR->Prop
 |nil:Disp [] []
 |cons{k e ks es}(t:Disp ks es):Disp (some k::ks) (e::es)
theorem Disp.shape{env:oT}{pos:ki}{ks:List (Option cR)}{vs:List cR}(h:Disp ks vs):(evalEachOpt ks env).zip ((jL vs env).map λv=>do let x <- v;cQ pos;pure x)=(Jx env pos ks vs).map (λp=>(some p.1,p.2))/\(Jx env pos ks vs).length=vs.length:=by
 induction h with
 |nil=>show⟨rfl,rfl⟩
 |cons _ ih=>show{congrArg (cW _) ih.1,congrArg k8 ih.2}
inductive PD(F:Fx)(D:Dx)(m:Loc)(t:List Cl)(K:List (bY×V)->AH->Prop)(ps:List (aL×aL))(s:aW):Prop
 |mk(mm:List (bY×V))(xs:List (bY×aL))(H:AH)(P:PH)(k:K mm H)(c:Carries (strKind pw F.g.w) ps xs)(r:VM P mm xs)(ok:Ok F D m t H P s)
def WDs(F:Fx)(m:Loc)(H:AH)(ks:List (Option cR))(vs:List cR)(K:List (bY×V)->AH->Prop):Prop:=
 ∀D t P s pos,Ok F D m t H P s->A2 F.g.M D.A (nA (Jx D.env pos ks vs)) (PD F D m t K) (PX F D) s
theorem WDs.nil{K:List (bY×V)->AH->Prop}(h:K [] H):WDs F m H [] [] K:=λD t P s pos ok=>A1 {[],[],H,P,h,trivial,.nil,ok}
theorem WDs.cons{k:bY}{K:List (bY×V)->AH->Prop}(h:WE F m H e λv H1=>WDs F m H1 ks es λmm H2=>K ((k,v)::mm) H2):WDs F m H (some (.Constant (.str k) kk kp)::ks) (e::es) K:=by
 intro D t P s pos ok;apply @A2 _ _ _ _ Y _ _;show A0 (lf <| wpAny_Constant_str (A0 (A3 (A0 (h.seq (ok.toks _) λx s1 v H1 P1 k1 ok1=>A0 (A5 (A1 (A0 (A3 (A4 (k1 D _ P1 s1 pos ok1) (λps s2 q=>?_) λa a p=>p))))))))));obtain⟨mm,xs,H2,P2,k2,c,r,ok2⟩:=q;show A1 {(k,v)::mm,(k,x)::xs,H2,P2,k2,{Er.trans (by simp[ms]),rfl,c},.cons ok2.top r,ok2.pop}
theorem VM.keys{κ:Type}{mm:List (κ×V)}{xs:List (κ×aL)}(r:VM P mm xs):xs.map (·.1)=mm.map (·.1):=by
 induction r with
 |nil=>rfl
 |cons _ _ ih=>show congrArg (cW _) ih
theorem Ll{K:Type}[DecidableEq K]:∀{more kvs:List (K×aL)},((kvs++more).map (·.1)).Nodup->r6 kvs more=kvs++more:=by
 intro l9
 induction l9 with
 |nil=>intro kvs z1;simp[r6]
 |cons p r ih =>
  intro kvs h;change r6 (eJ kvs p.1 p.2) r=_;have hn:¬ (kvs.any λkv=>decide (kv.1=p.1))=true:=by
   rw[gV];rintro⟨kv,hk,e⟩;rw[aJ,eC]at h;show h.2.2 kv.1 (aE.mpr ⟨kv,hk,rfl⟩) p.1 (by simp) (dte e)
  rw[eJ,if_neg hn,ih (by simpa using h)];simp
theorem WE.f7(hd:Disp ks es)(h0:es≠[])(hl:es.length<=15)
  (h:∀d,H d=.none->WDs F m (H.set d (.aa [])) ks es λmm H2=>H2 d=some (.aa [])/\(mm.map (·.1)).Nodup/\K ↑d (H2.set d (.aa mm))):WE F m H (.Dict ks es p) K:=by
 intro D t P s ok;apply @A2 _ _ _ _ Y _ _;obtain⟨e,ok0⟩:=ok.own (a:=.aa []) (n:=s.toks) (o:={cls:=.type "dict",data:=.dict #[]}) rfl {[],ok.nsm,fX _,.nil};have l:=(hd.shape (env:=D.env) (pos:=p)).2;show Gz (knd:=strKind pw F.g.w) (hd.shape (env:=D.env) (pos:=p)).1 (λe=>?_) ((l▸hl)) (A4 (h _ e D t P _ p ok0) (λps s1 q=>?_) λb b p=>p)
 .rw[e]at l;show h0 (gz.mp l.symm)
 .apply Y;obtain⟨mm,xs,H2,P2,⟨k1,nd,k⟩,c,r,ok2⟩:=q;obtain⟨xs0,ns,D1,r0⟩:=(ok2.q.own _ _ k1).2.2;rcases r0;show{xs,c,D1,λh' D' sb=>?_};rw[Ll (by simp only[oO,r.keys];show nd)]at D';show(ok2.same (ok2.q.cn (t:=s1.toks+ps.length) (o':=.aa mm) k1 sb ⟨xs,ns,D',r⟩)).val k rfl
inductive Frz:AObj->V->Prop
 |list{xs}:Frz (.list xs) (.list xs)
 |ae{mm}:Frz (.ae mm) (.ae mm)
 |aa{mm}:Frz (.aa mm) (.aa mm)
theorem Ok.freeze(ok:Ok F D m t H P s)(e:H a=some o)(hp:Frz o v):Ok F D m t (H.del a) (P.set a (.fro v)) s/\VR (P.set a (.fro v)) v ↑a:=by
 apply Y;obtain⟨b,e2,z⟩:=ok.q.own a o e;have k:=Fro.new (p:=.fro v) e2;rcases hp<;>show{ok.on (ok.q.hand e (by obtain⟨vs,z⟩:=z.at k rfl;show⟨vs,z⟩)) (PH.new e2),a,rfl,if_pos rfl}
theorem Ok.view(ok:Ok F D m t H P s)(hm:(x,k,some w)∈m)(hs:SetAt m x k v m')(hv:∀y,VR P w y->VR P v y):Ok F D m' t H P s:=by
 apply Y;obtain⟨nsm,hn,hl,hl'⟩:=ok.loc;show{ok.d,ok.q,ok.sub,hs.names.trans ok.nm,{nsm,hn,λz u hz=>?_,hl'},λz j ov hz hj=>?_,ok.stk,ok.ap}
 .apply Y;rcases hs.at ok.nd z _ _ hz with⟨rfl,rfl,e⟩|⟨_,hz⟩
  .clear hz;injection e with e;subst e;obtain⟨c,e,r⟩:=hl z w hm;show{c,e,hv _ r}
  .show hl z u hz
 .apply Y;rcases hs.at ok.nd z _ _ hz with⟨rfl,rfl,rfl⟩|⟨_,hz⟩
  .obtain⟨c,cv,e1,e2,e3⟩:=ok.cel z j _ hm hj;show{c,cv,e1,e2,λu e=>by injection e with e;subst e;apply Y;obtain⟨y,e,r⟩:=e3 w rfl;show{y,e,hv _ r}}
  .show ok.cel z j ov hz hj
end
section
theorem Tu{T id:String}(hl:dE (.type T) "__getitem__"=pure (some (.builtin id)))(hT:s.TypeIs x T)
  (hs:iV slice false x y=jc vs (i5 x y)) (h:A2 (aQ prog w) A (i5 x y) Q E s) :
  A2 (aQ prog w) A (do
   let r <- iV slice (<- qG x) x y
   dQ value x r
   pure r) Q E s:=by
 show A0 ?_;apply @A2 _ _ _ _ Y _ _;show A0 (lf <| wpAny_specialOf hT hl ?_);have fin:A2 (aQ prog w) A (iV slice false x y) (λr s₃=>A2 (aQ prog w) A (dQ value x r >>= λa=>pure r) Q E s₃) E s:=by
  rw[hs];show Hr (A4 h (λr s₃ h₃=>A0 (lf <| wpAny_letTemporaryGo (A1 h₃))) λa a x=>x)
 first
  |show A1 (A0 fin)
  |show A0 (A1 (A0 fin))
theorem Jy{l:aK}{k:Int}{t:qi}{v:aL}(hl:s.heap.PlainList l items)
  (h0:0<=k) (hfit:k<2^63) (hn:k<items.size)
  (hQ:∀h',h'.PlainList l (items.setIfInBounds k.toNat v)->cP l s.heap h'->Q () {s with heap:=h'}) :
  aM (aQ prog w) A (gF ↑l (.int k t) v) Q E s:=by
 obtain⟨ne,ho⟩:=id hl;have il:=hl.isList;show dL ?_;show ac (wpAny_sequenceKey il.typeIs rfl ?_);show ac (gM (name:="__setitem__") il.typeIs pO
  (hW pO il.typeIs entry_list_setitem ?_ (args_list_setitem _ _ _)))
 show(let K3:=_;let K4:=_;(?_:@aM _ _ _ K3 K4 _ _));change aM _ _ (qY (.int k t) >>= _) _ _ s;show ac (wpAny_listSubscript_int (fitsIndex_of h0 hfit) ?_);clear hfit;obtain⟨j,rfl⟩:=fE h0;have hj:j<items.size:=(gf.mp ‹_›);have hx':items[j]?=some items[j]:=Array.getElem?_eq_getElem hj;show ac (ac (wpAny_seqItemAt ho rfl (aB ?_)));rw[hx'];have hfin:(s.heap.update l (nP (·.setIfInBounds j v))).PlainList l (items.setIfInBounds j v):={_,cM _ ho rfl};show ac (wpAny_setSeqItemAt ho rfl ?_)
 first
  |show ac (aB (aB {.none,rfl,aB (hQ _ hfin (cJ ..))}))
  |show aB {.none,rfl,aB (hQ _ hfin (cJ ..))}
theorem Lm(items:Array aL):∀(k:Nat)(acc:Array aL),(List.foldl (λx1 x2=>x1++x2) acc (bO k items)).toList=acc.toList++(bO k items.toList).flatten
 |0,acc=>by simp
 |k+1,acc=>by simp only[eH,mo,Lm items k,eH,gZ,jo,aH]
variable{F:Fx}{D:Dx}{m:Loc}{t:List Cl}{H:AH}{P:PH}{s:aW}{K:V->AH->Prop}
def G2(F:Fx)(o i:V)(H:AH)(K:V->AH->Prop):Prop:=
 ∀D m t P s x y,Ok F D m (.val i y::.val o x::t) H P s->∃T id,dE (.type T) "__getitem__"=pure (some (.builtin id))/\s.TypeIs x T/\A2 F.g.M D.A (i5 x y) (PV F D m t K) (PX F D) s
theorem G2.w2(h:G2 F o i H K):W2 F i5 o i H K:=λD m t P s x y ok=>(h D m t P s x y ok).elim λ_ y0=>y0.elim λ_ y1=>y1.elim λ_ y2=>y2.elim λ_ z=>z
theorem WE.sub(hs:∀x y,iV slice false x y=jc [x,y] (i5 x y))(h:WE F m H value λo H1=>WE F m H1 slice λi H2=>G2 F o i H2 K):WE F m H (.Subscript value slice pos) K:=by
 intro D t P s ok;apply @A2 _ _ _ _ Y _ _;change A2 _ _ (do
  let o <- ch value D.env;let i <- cN [o] (ch slice D.env)
  cQ pos
  let r <- iV slice (<- qG o) o i
  dQ value o r
  pure r) _ _ _
 show A0 (h.seq ok λx s1 o H1 P1 k ok1=>A0 (A3 (k.seq ok1 λy s2 i H2 P2 k2 ok2=>A0 (A5 ?_))));apply Y;obtain⟨T,id,hl,hT,z⟩:=k2 D m t P2 s2 x y ok2;show Tu hl hT (hs x y) z
theorem G2.list{o:Option aK}{i:Int}{w:V}(as:AsL H v o xs)(h0:0<=i)(hi:i<2^62)(hx:xs[i.toNat]?=some w)(h:K w H):G2 F v (.int i) H K:=by
 intro D m t P s x y ok;apply Y;obtain⟨a,rfl⟩:=ok.top;obtain⟨l,vs,rfl,il,rs⟩:=ok.asL as ok.top2;rcases rs.get i.toNat with⟨e,a⟩|⟨v,z,e,ez,rz⟩
 .rw[hx]at e;show absurd e (aF _)
 .obtain rfl:=bL (bP (eG hx) e);show{"list",_,jY,il.isList.typeIs,lf <| wpAny_getItem_list il.isList h0 (bH ‹_› '#') (x:=z) (by rw[eU];show ez) (ok.pop.pop.val h rz)}
theorem G2.last(as:AsL H v o xs)(hx:xs.getLast?=some w)(h:K w H):G2 F v (.int (-1)) H K:=by
 intro D m t P s x y ok;apply Y;obtain⟨a,rfl⟩:=ok.top;obtain⟨l,vs,rfl,il,rs⟩:=ok.asL as ok.top2;rw[lI]at hx;rcases rs.get (xs.length-1) with⟨e,a⟩|⟨v,z,e,ez,rz⟩
 .rw[hx]at e;show absurd e (aF _)
 .obtain rfl:=bL (bP (eG hx) e);have hp:=(aI.mp hx).1;have hl:=rs.len;show{"list",_,jY,il.isList.typeIs,lf <| wpAny_getItem_list_neg il.isList (dte tt) (by rw[aN];show lin 0x5086b08985edcbda043 336099 tt hp hl) (dte tt) (x:=z) ?_ (ok.pop.pop.val h rz)};simp only[show((-1:Int)+(vs.toArray.size:Nat)).toNat=xs.length-1 by rw[aN,hl];show congrArg jw (j2 (-1) _) |>.trans (lU _ 1),eU];show ez
theorem G2.tup{xs:List V}{i:Int}{w:V}(h0:0<=i)(hi:i<2^62)(hx:xs[i.toNat]?=some w)(h:K w H):G2 F (.tup xs) (.int i) H K:=by
 intro D m t P s x y ok;apply Y;obtain⟨a,rfl⟩:=ok.top;obtain⟨l,vs,rfl,it,rs⟩:=ok.tup ok.top2;rcases rs.get i.toNat with⟨e,a⟩|⟨v,z,e,ez,rz⟩
 .rw[hx]at e;show absurd e (aF _)
 .obtain rfl:=bL (bP (eG hx) e);have hp:=(aI.mp hx).1;have hl:=rs.len;obtain⟨ob,eo,c,a⟩:=id it;show{"tuple",_,PySem.F.slot_tuple_getitem.lookup,⟨ob,eo,c⟩,lf <| getItem_tuple it (lin 0x185b30a5e87e23f48 263 tt h0) (bH ‹_› '#') (j:=i.toNat) ?_ (x:=z) (by rw[eU];show ez) (ok.pop.pop.val h rz)};have h3:i<(vs.toArray.size:Nat):=by rw[aN];show lin 0x50c4b08d94115b4094b 370951 tt hp hl (fR _)
  simp only[qd,show ¬ i<0 by show lin 836881985864 263 tt h0,if_false];rw[if_pos (by simp only[h0,h3,decide_true,Bool.and_self])]
theorem G2.bytes{b:List UInt8}{i:Int}(hz:b.length<=2^30)(h0:0<=i)(h1:i<b.length)(h:K (.int (b.getD i.toNat 0).toNat) H):G2 F (.bytes b) (.int i) H K:=by
 intro D m t P s x y ok;obtain⟨a,e9⟩:=ok.top;rw[e9];obtain⟨a,e9⟩:=ok.top2;rw[e9];show{"bytes",_,gI.lookup,cH _ _ _,lf <| getItem_bytes (aC ‹_› (nle rfl)) h0 h1 (ok.pop.pop.int h)}
inductive AsS(H:AH):V->List (bY×V)->Prop
 |fro{mm}:AsS H (.aa mm) mm
 |own{a mm}(e:H a=some (.aa mm)):AsS H ↑a mm
inductive AsI(H:AH):V->List (Int×V)->Prop
 |fro{mm}:AsI H (.ae mm) mm
 |own{a mm}(e:H a=some (.ae mm)):AsI H ↑a mm
theorem Ok.asS(ok:Ok F D m t H P s)(as:AsS H v mm)(r:VR P v x):∃l xs,x=.ref l/\l≠kB/\s.heap.DictOf (strKind pw F.g.w) l xs/\VM P mm xs:=by
 apply Y;induction as using AsS.casesOn with
 |fro=>obtain⟨l,rfl,e⟩:=r;obtain⟨xs,ns,z,q⟩:=(ok.q.prv l _ e).2;show⟨l,xs,rfl,ns,z,q⟩
 |own e=>subst r;obtain⟨xs,ns,z,q⟩:=(ok.q.own _ _ e).2.2;show⟨_,xs,rfl,ns,z,q⟩
theorem Ok.asI(ok:Ok F D m t H P s)(as:AsI H v mm)(r:VR P v x):∃l xs,x=.ref l/\l≠kB/\s.heap.DictOf (gH pw F.g.w) l xs/\VM P mm xs:=by
 apply Y;induction as using AsI.casesOn with
 |fro=>obtain⟨l,rfl,e⟩:=r;obtain⟨xs,ns,z,q⟩:=(ok.q.prv l _ e).2;show⟨l,xs,rfl,ns,z,q⟩
 |own e=>subst r;obtain⟨xs,ns,z,q⟩:=(ok.q.own _ _ e).2.2;show⟨_,xs,rfl,ns,z,q⟩
theorem Dy{t:qi}:(gH pw w).is k (.int k t)=true:=(show iq k (.int k t)=true by simp[iq])
theorem Pl{t:qi}:(strKind pw w).is k (.str k t)=true:=Er.trans (by simp[ms])
theorem Qx{κ:Type}[DecidableEq κ]{knd:KeyKind prog w κ}{h:j3}{xs:List (κ×aL)}(z:h.DictOf knd l xs):(xs.map (·.1)).Nodup:=(z).elim λ_ y0=>y0.elim λ_ y1=>y1.elim λ_ y2=>y2.elim λ_ y3=>y3.elim λ_ y4=>y4.elim λ_ y5=>y5.elim λ_ y6=>y6.elim λ_ nd=>nd
theorem G2.aa{w:V}(as:AsS H v mm)(hm:lget mm k=some w)(h:K w H):G2 F v (.str k) H K:=by
 intro D m t P s x y ok;apply Y;obtain⟨a,rfl⟩:=ok.top;obtain⟨l,xs,rfl,ns,z,r⟩:=ok.asS as ok.top2;rcases r.get k with⟨e,a⟩|⟨v,y,e,ey,ry⟩
 .rw[hm]at e;show absurd e (aF _)
 .obtain rfl:=bL (bP (eG hm) e);show{"dict",_,pP.lookup,z.typeIs,lf <| wpAny_getItem_of Pl z.mapOf (Cw.trans ey) ((ok.pop.pop.toks _).val h ry)}
theorem G2.ae(as:AsI H v mm)(hm:lget mm k=some w)(h:K w H):G2 F v (.int k) H K:=by
 intro D m t P s x y ok;apply Y;obtain⟨a,rfl⟩:=ok.top;obtain⟨l,xs,rfl,ns,z,r⟩:=ok.asI as ok.top2;rcases r.get k with⟨e,a⟩|⟨v,y,e,ey,ry⟩
 .rw[hm]at e;show absurd e (aF _)
 .obtain rfl:=bL (bP (eG hm) e);show{"dict",_,pP.lookup,z.typeIs,lf <| wpAny_getItem_of Dy z.mapOf (Cw.trans ey) ((ok.pop.pop.toks _).val h ry)}
theorem VRs.set(r:VRs P xs vs)(i:Nat)(h:VR P w y):VRs P (xs.set i w) (vs.set i y):=by
 induction r generalizing i with
 |nil=>show .nil
 |cons h' r ih=>induction i using Nat.casesOn with
  |zero=>show .cons h r
  |succ i=>show .cons h' (ih i)
theorem VRs.append(r:VRs P xs vs)(q:VRs P ys ws):VRs P (xs++ys) (vs++ws):=by
 induction r with
 |nil=>show q
 |cons h _ ih=>show .cons h ih
theorem VRs.flat{xs:List V}{vs:List aL}(r:VRs P xs vs):∀k:Nat,VRs P (bO k xs).flatten (bO k vs).flatten
 |0=>.nil
 |k+1=>by simp only[eH];show r.append (r.flat k)
theorem Ok.c8{o o':AObj}{n:Nat}(ok:Ok F D m t H P s)(e:H a=some o)(sb:cP a s.heap h')(n0:OR F.g P h' a o'):Ok F D m t (H.set a o') P {s with heap:=h',toks:=n}:=ok.same (ok.q.cn e sb n0)
theorem Ok.unit{KH:AH->Prop}(ok:Ok F D m t H P s)(h:KH H):PU F D t (λm' H'=>m'=m/\KH H') s:={m,H,P,⟨rfl,h⟩,ok}
theorem U3.list{a:aK}{i:Int}{w:V}{K:AH->Prop}(e:H a=some (.list xs))(h0:0<=i)(h1:i<xs.length)(hz:xs.length<=2^40)(h:K (H.set a (.list (xs.set i.toNat w)))):U3 F gF ↑a (.int i) w H K:=by
 intro D m t P s x y z ok;apply @A2 _ _ _ _ Y _ _;obtain⟨b,e9⟩:=ok.top2;rw[e9];rw[ok.pop.top2];apply Y;obtain⟨vs,il,rs⟩:=(ok.q.own a _ e).2.2;have hl:=rs.len;show lf <| Jy il h0 (lin 0x6d025485023f42d0fc47e949 9479 tt h1 hz) (by rw[aN];show lin 0xda08ab089b4094a 10503 tt h1 hl) λh' il' sb=>?_;simp only[List.setIfInBounds_toArray]at il';show(ok.pop.pop.pop.c8 (n:=s.toks) (o':=.list _) e sb {_,il',rs.set i.toNat ok.top}).unit h
theorem U3.ae{a:aK}{K:AH->Prop}(e:H a=some (.ae mm))(hz:mm.length<=2^20)(h:K (H.set a (.ae (lput mm k w)))):U3 F gF ↑a (.int k) w H K:=by
 intro D m t P s x y z ok;apply @A2 _ _ _ _ Y _ _;obtain⟨b,e9⟩:=ok.top2;rw[e9];rw[ok.pop.top2];apply Y;obtain⟨xs,ns,z,r⟩:=(ok.q.own a _ e).2.2;show lf <| wpAny_setItem_pairs Dy z (λh' z' sb=>?_) (by rw[<- r.len];have:=szl;show aC ‹_› (nle rfl));rw[Fg (Qx z)]at z';show(ok.pop.pop.pop.c8 (n:=_) (o':=.ae _) e sb {_,ns,z',r.put k ok.top}).unit h
theorem VM.isSome{κ:Type}[DecidableEq κ]{mm:List (κ×V)}{xs:List (κ×aL)}(r:VM P mm xs)(k:κ):(pM xs k).isSome=(lget mm k).isSome:=by
 rw[Cw];rcases r.get k with⟨e,e'⟩|⟨a,a,e,e',a⟩<;>rw[e,e']<;>rfl
theorem W2.inI(as:AsI H v mm)(h:K (.bool (lget mm k).isSome) H):W2 F (bU .In) (.int k) v H K:=by
 intro D m t P s x y ok;apply @A2 _ _ _ _ Y _ _;obtain⟨a,e9⟩:=ok.top2;rw[e9];obtain⟨l,xs,e9,ns,z,r⟩:=ok.asI as ok.top;rw[e9];show lf <| wpAny_in_of Dy (by simpa using ns) z.mapOf (by rw[r.isSome];show(ok.pop.pop.toks _).bool h)
theorem W2.notinI(as:AsI H v mm)(h:K (.bool (!(lget mm k).isSome)) H):W2 F (bU .NotIn) (.int k) v H K:=by
 intro D m t P s x y ok;apply @A2 _ _ _ _ Y _ _;obtain⟨a,e9⟩:=ok.top2;rw[e9];obtain⟨l,xs,e9,ns,z,r⟩:=ok.asI as ok.top;rw[e9];show lf <| wpAny_notIn_of Dy (by simpa using ns) z.mapOf (by rw[r.isSome];show(ok.pop.pop.toks _).bool h)
theorem WC.bg{o:Option aK}{xs:List V}(as:AsL H v o xs)(hz:xs.length<=2^40)(h:K (.int xs.length) H):WC F (.builtin "len") [v] H K:=by
 intro D m t P s ys ok r;apply Y;obtain⟨a,rfl,r1⟩:=r.one;clear r;obtain⟨l,vs,rfl,il,rs⟩:=ok.asL as r1;show lf <| call_len_list il.isList (by simp only[aN,<- rs.len];show lin 0x90a047e85a1f88fda041 263 tt hz) (by simp only[aN,<- rs.len];show ok.int h)
theorem WC.lenY(hz:b.length<=2^30)(h:K (.int b.length) H):WC F (.builtin "len") [.bytes b] H K:=by
 intro D m t P s ys ok r;apply @A2 _ _ _ _ Y _ _;obtain⟨a,rfl,a,rfl⟩:=r.one;show lf <| len_bytes (by rw[aN];show aC ‹_› (nle rfl)) (by rw[aN];show ok.int h)
theorem WC.lenI(as:AsI H v mm)(hz:mm.length<=2^40)(h:K (.int mm.length) H):WC F (.builtin "len") [v] H K:=by
 intro D m t P s ys ok r;apply @A2 _ _ _ _ Y _ _;obtain⟨a,rfl,r1⟩:=r.one;obtain⟨l,xs,e9,ns,z,r⟩:=ok.asI as r1;rw[e9];show lf <| call_len_dict (by simpa using ns) z (by rw[<- r.len];show lin 0x90a047e85a1f88fda041 263 tt hz) ((r.len▸ok.int h))
theorem WC.min(h:K (.int (if b<a then b else a)) H):WC F (.builtin "min") [.int a,.int b] H K:=by
 apply @WC _ _ Y _ _;intro D m t P s ys ok r;apply Y;obtain⟨c,c,rfl,⟨c,rfl⟩,c,rfl⟩:=r.two;show lf <| min_two_ints ok.d.a.quiet λh' tk k=>(ok.grow k).val h ?_;split<;>show⟨_,rfl⟩
theorem WC.abs(h:K (.int (if a<0 then -a else a)) H):WC F (.builtin "abs") [.int a] H K:=by
 intro D m t P s ys ok r;apply @A2 _ _ _ _ Y _ _;obtain⟨b,rfl,b,rfl⟩:=r.one;show lf <| call_abs_int λu tk=>ok.int h
theorem WC.intB(h:K (.int (if b then 1 else 0)) H):WC F (.type "int") [.bool b] H K:=by
 intro D m t P s ys ok r;apply @A2 _ _ _ _ Y _ _;obtain⟨a,rfl,rfl⟩:=r.one;show lf <| call_int_bool (ok.int h)
theorem Ok.newL{n c:Nat}{vs:Array aL}(ok:Ok F D m t H P s)(k:∀b o,s.heap.get? b=some o->h'.get? b=some o)(e0:s.heap.get? a=none)(e:h'.get? a=some {cls:=.type "list",dict:=none,data:=.seq vs c,slots:=#[]})(r:VRs P xs vs.toList)(h:K (.list xs) H):PV F D m t K ↑a {s with heap:=h',toks:=n}:=by
 apply Y;obtain⟨a1,a2,a0⟩:=ok.q.fresh e0;obtain⟨ok',d,d⟩:=(ok.grow (n:=n) k).take (p:=.fro (.list xs)) a0 a1 a2 {vs.toList,{c,by simp only[mM];show e},r.mono (.new a2)};show ok'.val h {a,rfl,if_pos rfl}
theorem Ok.newLO{n c:Nat}(ok:Ok F D m t H P s)(k:∀b o,s.heap.get? b=some o->h'.get? b=some o)(e0:s.heap.get? a=none)(e:h'.get? a=some {cls:=.type "list",dict:=none,data:=.seq vs c,slots:=#[]})(r:VRs P xs vs.toList)(h:∀a,H a=none->K ↑a (H.set a (.list xs))):PV F D m t K ↑a {s with heap:=h',toks:=n}:=
 (ok.same (ok.q.bb (o:=.list xs) k e0 {vs.toList,{c,by simp only[mM];show e},r})).val (h a (ok.q.fresh e0).1) rfl
theorem W2.cat{v w:V}{o o':Option aK}{xs ys:List V}(as:AsL H v o xs)(bs:AsL H w o' ys)(hz:xs.length+ys.length<=2^20)(h:K (.list (xs++ys)) H):W2 F (eL .Add) v w H K:=by
 intro D m t P s x y ok;apply Y;obtain⟨l,vs,rfl,⟨nn,ho⟩,rs⟩:=ok.asL as ok.top2;obtain⟨l',ws,rfl,⟨n2,ho2⟩,rs'⟩:=ok.asL bs ok.top;have e1:=rs.len;have e2:=rs'.len;have sz:=szl;show lf <| concat_meets ⟨_,ho,rfl⟩ ⟨_,ho2,rfl⟩ noFill_list_add seq_list_add PySem.F.slot_list_add PySem.F.entry_list_add (PySem.F.args_list_add_2 _ _) (list_addW l l' vs.toArray ws.toArray nn n2 none none #[] #[] (by simp;lia)) {ho,ho2,?_};show ok.pop.pop.newL (n:=s.toks) (Bd _) (Ak (bC _)) (bI _ rfl) (by simpa using rs.append rs') h
theorem W2.catY(hz:b.length+c.length<=2^20)(h:K (.bytes (b++c)) H):W2 F (eL .Add) (.bytes b) (.bytes c) H K:=by
 intro D m t P s x y ok;apply @A2 _ _ _ _ Y _ _;obtain⟨a,e9⟩:=ok.top;rw[e9];obtain⟨a,e9⟩:=ok.top2;rw[e9];show lf <| KBy.add_bytes (by rw[aN];show aC ‹_› (nle rfl)) λt' k=>(ok.pop.pop.toks _).val h {t',by rw[ng]}
theorem W2.rep(hpos:0<vs.length)(hz:vs.length*i.toNat<=2^20)(hi:-2^40<i/\i<2^40)(h:K (.list (bO i.toNat vs).flatten) H):W2 F (eL .Mult) (.list vs) (.int i) H K:=by
 intro D m t P s x y ok2;have sz:=szl;obtain⟨tk,e9⟩:=ok2.top;rw[e9];obtain⟨l,us,rfl,⟨cc,e1⟩,ru⟩:=ok2.asL (show AsL H (.list vs) .none vs from⟨rfl,rfl⟩) ok2.top2;have eu:=ru.len;have fi:jB i=true:=by
  unfold jB;simp only[decide_eq_true (by show lin 0x7b42811fa5694bd0a047eb0a5e87e23f48 295 tt hi:-(2^63:Int)<=i),decide_eq_true (by show bH (cL ‹_›) '#':i<2^63)];rfl
 show lf <| wpAny_binaryOp_repeat_ref (T:="list") (U:="int") rfl ⟨_,e1,rfl⟩ (λs'=>pz s' i tk) noFill_list_mul PySem.F.fills_int_mul lO repeat_list PySem.F.slot_int_index.lookup
  (call_meets lO (pz _ i tk) PySem.F.entry_int_rmul (PySem.F.args_int_rmul_2 _ _) (int___rmul___int_list i tk l us.toArray cc)
   ⟨e1,rfl,⟨_,e1,rfl⟩,call_meets PySem.F.slot_list_mul ⟨_,e1,rfl⟩ PySem.F.entry_list_mul (PySem.F.args_list_mul_2 _ _)
    (AutoListH.list___mul___list_int_3 l us.toArray cc i tk (by rw[fi];decide) (by simp only[aN,<- eu];show g8.mpr (aC hz (nle tt))) (by simp only[qX,decide_eq_true_eq,aN,<- eu];show g8.mpr (aC hz (nle tt))))
    {e1,?_}⟩)
 have ne:us.toArray.isEmpty=false:=by
  rw[jW];intro c;have:us=[]:=by simpa using c
  rw[this]at eu;simp only[eu]at hpos;show absurd hpos (dte tt)
 rw[ne,if_neg '#'];show ok2.pop.pop.newL (n:=s.toks) (Bd _) (Ak (bC _)) (bI _ rfl) (by simp only[(Lm us.toArray i.toNat #[])];show ru.flat i.toNat) h
theorem WC.listL{o:Option aK}{xs:List V}(as:AsL H v o xs)(hz:xs.length<=2^20)(h:K (.list xs) H):WC F (.type "list") [v] H K:=by
 intro D m t P s ys ok r;apply Y;obtain⟨a,rfl,r1⟩:=r.one;clear r;obtain⟨l,vs,rfl,⟨k,ho⟩,rs⟩:=ok.asL as r1;have e:=rs.len;have sz:=szl;show lf <| call_list_seq l (.inl rfl) ho rfl rfl (λh' c' kp e'=>ok.newL (n:=s.toks) kp (Ak (bC _)) e' rs h) (szL hz (by rw[aN];first|show e|show r.len|show rs.len))
theorem WC.listLO(as:AsL H v o xs)(hz:xs.length<=2^20)(h:∀a,H a=none->K ↑a (H.set a (.list xs))):WC F (.type "list") [v] H K:=by
 intro D m t P s ys ok r;apply Y;obtain⟨b,rfl,r1⟩:=r.one;clear r;obtain⟨l,vs,rfl,⟨k,ho⟩,rs⟩:=ok.asL as r1;have e:=rs.len;have sz:=szl;show lf <| call_list_seq l (.inl rfl) ho rfl rfl (λh' c' kp e'=>ok.newLO (n:=s.toks) kp (Ak (bC _)) e' rs h) (szL hz (by rw[aN];first|show e|show r.len|show rs.len))
theorem Tv(r:VM P mm xs):∀{ys:List aL},(∀(i:Nat)(y:aL),ys[i]?=some y->∃k x,xs[i]?=some (k,x)/\iq k y=true)->ys.length=xs.length->VRs P (mm.map λq=>.int q.1) ys:=by
 induction r with
 |nil=>intro ys a hl;clear a;induction ys with
  |nil=>show .nil
  |cons=>contradiction
 |@cons k v x mm xs h _ ih=>intro ys hy hl;apply Y;induction ys with
  |nil=>contradiction
  |cons y ys=>
   obtain⟨k',x',e1,e2⟩:=hy 0 y rfl;injection e1 with e1;injection e1 with e1;subst e1;show .cons (nB e2) (ih (λi y e=>hy (i+1) y e) (cS hl))
theorem WC.listI(as:AsI H v mm)(hz:mm.length<=2^20)(h:K (.list (mm.map λq=>.int q.1)) H):WC F (.type "list") [v] H K:=by
 intro D m t P s ys ok r;apply @A2 _ _ _ _ Y _ _;obtain⟨b,rfl,r1⟩:=r.one;obtain⟨l,xs,e9,ns,z,r⟩:=ok.asI as r1;rw[e9];apply Y;obtain⟨ep,DA⟩:=z.dictAt;show lf <| kdl_call (kdl_dict (knd:=gH pw F.g.w) (kvs:=xs) (ep:=ep) (by simpa using ns)) ok.d.a.quiet DA (by rw[<- r.len];show aC ‹_› (nle rfl)) λh' tk acc' c' kp e' io=>ok.newL (n:=tk) kp (Ak (bC _)) e' (Tv r (λi y e=>?_) ?_) h
 .rw[Array.getElem?_toList]at e;apply Y;obtain⟨k',x',e1,e2⟩:=io.2 i y e;show⟨k',x',e1,e2⟩
 .simp only[jp];show io.1
theorem WC.append{a:aK}(e:H a=some (.list xs))(hz:xs.length<=2^20)(h:K .none (H.set a (.list (xs++[w])))):WC F (.builtin "list.append") [↑a,w] H K:=by
 intro D m t P s ys ok r;apply Y;obtain⟨b,b,rfl,rfl,r2⟩:=r.two;obtain⟨vs,il,rs⟩:=(ok.q.own a _ e).2.2;have el:=rs.len;have sz:=szl;show lf <| wpAny_list_append_plain il (λh' il' sb=>?_) (szL hz (by rw[aN];first|show e|show r.len|show rs.len))
 simp only[jV]at il';show(ok.c8 (n:=s.toks) (o':=.list _) e sb {_,il',rs.snoc r2}).val h rfl
theorem Gm.list{o:Option aK}{id:String}(slot:mu "list" name id)(hty:gJ (.builtin id)=pure (.type "method_descriptor"))(as:AsL H v o xs):Gm F H v name id:=by
 intro D m t P s x pl Q E ok r hq;apply Y;obtain⟨l,vs,rfl,⟨n,ho⟩,rs⟩:=ok.asL as r;show lf <| getMethod_builtin ⟨_,ho,rfl⟩ PySem.F.plainAttrs_list slot hty (λa e=>by injection e with e;subst e;show⟨_,ho,rfl⟩) hq
end
end
section
section
variable{prog:hJ}{w:gE}{A:dX}{R:lD->aW->Prop}{h:j3}{g:Array oS}{d:Drawn}{t:Nat}{os:m5}
variable{nm q:bY}{C N:aK}{bs bm bmB:List aL}{hdct:Bool}{sn:List bY}{sub:List aL}{ab:Bool}{col:Option Bool}{dd:Option aK}{k0 k1 k2 k3 k5:Option aL}{B newId initId:String}
theorem Wd(F:l8 B newId initId bmB)(hb:∀X,bm.contains (.type X)=bmB.contains (.type X))(hC:h.get? C=some (iW nm q C N bs bm hdct sn sub ab col dd k0 k1 k2 k3 k5 newId))
  (hq:R (.ok (.ret (.ref (h.objs.size+1)))) ⟨(h.push {cls:=.type "tuple",data:=.seq rest.toArray}).push
   {cls:=.ref C,data:=.fields #[↑h.objs.size,.none,.none,.none,.bool false,.none]},g,d,t,os⟩) (hrest:rest.length<=dM) :
  dD (aQ prog w) A (.builtin newId {.ref C::rest,[]}) R ⟨h,g,d,t,os⟩:=by
 have hends:=F.ends;have hcB:(.ref C::bm).contains (.type B)=true:=by rw[iX,hb,F.hasB,m9]
 have hcA:(.ref C::bm).contains (.type "AttributeError")=false:=by rw[iX,hb,F.noAttr];rfl
 have hcN:(.ref C::bm).contains (.type "NameError")=false:=by rw[iX,hb,F.noName];rfl
 show codeAny_builtinAt F.entry ?_;unfold dG.«BaseException.__new__»;apply @qj _ _ _ _ _ Y _ _;show nY ?_;show nY (PySem.wpAt_stack λp below=>mP ?_)
 wp_walk
 apply @qj _ _ Y _ _ _ _ _;show mP ?_;rw[F.owner]
 repeat (first|with_reducible show wpAny_madeHere_exc F.canon hC ?_|with_reducible show kU hC ?_|(with_reducible show jX hC ?_;first|rw[hcB]|rw[hcA]|rw[hcN])|wp_step)
 change R _ _;rw[cY];show hq
theorem Tw(F:l8 B newId initId bmB)(hb:∀X,bm.contains (.type X)=bmB.contains (.type X))(hC:h.get? C=some (iW nm q C N bs bm hdct sn sub ab col dd k0 k1 k2 k3 k5 newId))
  (hi:dU (aQ prog w) h (dE ↑C "__init__") (some ↑fI)) (hf:dU (aQ prog w) h (gJ ↑fI) (.type "function")) (hrest:rest.length<=dM) (hck:dU (aQ prog w) h (eA newId {.ref C::rest,[]}) ())
  (hq:A2 (aQ prog w) (A.under (.builtin "type.__call__" {.ref C::rest,[]})) (call ↑fI (.ref (h.objs.size+1)::rest)) (λr s'=>r=.none/\Q (.ref (h.objs.size+1)) s') E
   {(h.push {cls:=.type "tuple",data:=.seq rest.toArray}).push {cls:=.ref C,data:=.fields #[↑h.objs.size,.none,.none,.none,.bool false,.none]},g,d,t,os}) :
  A2 (aQ prog w) A (call ↑C rest) Q E ⟨h,g,d,t,os⟩:=by
 have kp:∀b o,h.get? b=some o->((h.push {cls:=.type "tuple",data:=.seq rest.toArray}).push {cls:=.ref C,data:=.fields #[↑h.objs.size,.none,.none,.none,.bool false,.none]}).get? b=some o:=λb o e=>bA _ (bA _ e);have call:dU (aQ prog w) h (nr ↑C "__call__") (some (.builtin "type.__call__")):=by
  show((gh hC).andThen .now).andThen (by change dU _ _ (dE (.type "type") _) _;rw[tc_lookup];show .now)
 have hcC:(.ref C::bm).contains ↑C=true:=by simp
 show Cg (Ai rfl ?_);show A0 (lf (fZ (s:=⟨h,g,d,t,os⟩) hC ?_));show A0 (lf (call.here (s:=⟨h,g,d,t,os⟩) ?_));show A0 (A1 (A0 (A1 ?_)));show A1 (a:=rH (.call (.builtin "type.__call__") {.ref C::rest,[]})) (gC rfl ?_);apply @Ae _ _ _ Y _;show Bq (by decide +kernel) (ig _ (by decide +kernel)) rh (lf (wpAny_check_type_call_sub hC ?_));apply @A2 _ _ _ _ Y _ _;show A0 (lf ((((gh (part:=none) hC).andThen .now).andThen .now:dU (aQ prog w) h (mroOf ↑C) (.ref C::bm)).here (s:=⟨h,g,d,t,os⟩) ?_));apply @A2 _ _ Y _ _ _ _;show A0 (lf (wpAny_madeBy_exc hC ?_));show A0 (A1 (A0 (A3 (lf (iM (codeAny_call_builtin_code (ig _ F.quiet) (hck.here (s:=⟨h,g,d,t,os⟩) (Wd F hb hC ?_ hrest))))))));have hget:((h.push {cls:=.type "tuple",data:=.seq rest.toArray}).push
   {cls:=.ref C,data:=.fields #[↑h.objs.size,.none,.none,.none,.bool false,.none]}).get? (h.objs.size+1)=some
   {cls:=.ref C,data:=.fields #[↑h.objs.size,.none,.none,.none,.bool false,.none]}:=by heap_get
 have t1:dU (aQ prog w) ((h.push {cls:=.type "tuple",data:=.seq rest.toArray}).push {cls:=.ref C,data:=.fields #[↑h.objs.size,.none,.none,.none,.bool false,.none]}) (gJ (.ref (h.objs.size+1))) ↑C:=(gh hget).andThen .now;show A0 (lf ?_);apply @kAny _ _ _ _ Y _ _;show ac (t1.here (s:=⟨_,g,d,t,os⟩) ?_);show jX (kp _ _ hC) ?_;rw[hcC];show A0 (A3 ?_);apply @A2 _ _ _ _ Y _ _;show A0 (lf ((t1.andThen (hi.keeps kp)).here (s:=⟨_,g,d,t,os⟩) ?_));show A3 (A0 ?_);show A0 (lf ((hf.keeps kp).here ?_));show A1 (A0 (A4 hq (λr s' hr=>?_) λc c x=>x));obtain⟨rfl,hQ⟩:=hr;show A1 (A1 hQ)
end
section
variable{prog:hJ}{w:gE}{A:dX}{h:j3}{g:Array oS}{d:Drawn}{t:Nat}{os:m5}
variable{nm q:bY}{C N:aK}{bs bm bmB:List aL}{hdct:Bool}{sn:List bY}{sub:List aL}{ab:Bool}{col:Option Bool}{dd:Option aK}{k0 k1 k2 k3 k5:Option aL}{B newId initId:String}
theorem Ix(F:l8 B newId initId bmB)(hb:∀X,bm.contains (.type X)=bmB.contains (.type X))
  (hC:h.get? C=some (iW nm q C N bs bm hdct sn sub ab col dd k0 k1 k2 k3 k5 newId)) (he:h.get? e=some oe) (hcls:oe.cls=.ref C) (hq:Q () ⟨h,g,d,t,os⟩) :
  aM M A (eA initId {.ref e::rest,[]}) Q E ⟨h,g,d,t,os⟩:=by
 have hcB:(.ref C::bm).contains (.type B)=true:=by simp only[iX,hb,F.hasB,m9]
 have hshort:=F.noStar;simp only[eA,F.initKind,F.initSplit,F.initRow]
 repeat (first|(with_reducible show kU he ?_;rw[hcls])|with_reducible show kU hC ?_|(with_reducible show jX hC ?_;rw[hcB])|wp_step)
 apply @aM _ _ _ _ _ _ Y;show PySem.wpAny_onRaise ?_;rw[show ∀(a b:String)(n:Nat),Bind.check {.positional,"*",B,.self,[{"args",.varPos,false}]} a b n (pe (λx=>x.fst) ({pos:=.ref e::rest}:Args).kw)=pure () from
  λa b n=>check_star_args _ _ _ _ _ _]
 show aB hq
theorem Jz(F:l8 B newId initId bmB)(hb:∀X,bm.contains (.type X)=bmB.contains (.type X))(hC:h.get? C=some (iW nm q C N bs bm hdct sn sub ab col dd k0 k1 k2 k3 k5 newId))
  (he:h.get? e=some oe) (hcls:oe.cls=.ref C) (hd:oe.data=.fields fs) (h0:fs[0]?=some a0) (hrest:rest.length<=dM)
  (hq:Q .none {(h.push {cls:=.type "tuple",data:=.seq rest.toArray}).update e (iO (·.setIfInBounds 0 ↑h.objs.size)),g,d,t,os}) :
  aM (aQ prog w) A (call (.builtin initId) (.ref e::rest)) Q E ⟨h,g,d,t,os⟩:=by
 show iM (eM F.init.plain F.initEntry (Ix F hb hC he hcls ?_));show(let K4:=_;let K5:=_;(?_:@aM _ _ _ _ K4 K5 _));have he₂:=bA (h:=h) {cls:=.type "tuple",data:=.seq rest.toArray} he;show ac (wpAny_newTuple (s:=⟨h,g,d,t,os⟩) ?_ hrest);show ac (m:=ni _ _ _) ?_;apply @aM _ _ _ _ Y _ _;show ac (wpAny_field (s:={h.push {cls:=.type "tuple",data:=.seq rest.toArray},g,d,t,os}) he₂ hd h0 ?_);show ac (gW (s:={h.push {cls:=.type "tuple",data:=.seq rest.toArray},g,d,t,os}) he₂ hd (cC.mp h0).1 ?_);apply @aM _ _ _ _ _ _ Y;have fin:∀A',aM (aQ prog w) A' (ret .none:kh PySem.Fin) (λfin s'=>match fin with|.done f=>(match (qq f:lD) with|.ok (.ret v)=>Q v s'|.ok _=>False|.error e=>E e s')|.again c'=>c'.quiet=true/\dD (aQ prog w) A c' (λr s'=>match r with|.ok (.ret v)=>Q v s'|.ok _=>False|.error e=>E e s') s') (λe s'=>E e s')
   {(h.push {cls:=.type "tuple",data:=.seq rest.toArray}).update e (iO (·.setIfInBounds 0 ↑h.objs.size)),g,d,t,os}:=λA'=>aB hq
 clear hb oe fs hC he hcls hd h0 hrest hq he₂;induction a0 using PySem.Value.casesOn with
 |ref o=>show oB (fin _)
 |_=>show aB (fin _)
end
end
section
open PyProof.Rows
section
section
variable{s:aW}{A:dX}{E:aL->aW->Prop}
theorem Qy{K:Frag}{ox:jh}(X:K.In s.heap)
  (I:InstAt s.heap x ox C none) (hd:ox.dict=none) (hf:ox.data=.fields fs) (hp:O3 K C=true) (ht:kV K C name=some none) (hh:(clsIn K C).any (·.hasDict)=true)
  (h:∀h',h'.DictOf (strKind pw w) s.heap.objs.size [(name,v)]->h'.get? x=some {ox with dict:=some s.heap.objs.size}->(∀b o,b≠x->s.heap.get? b=some o->h'.get? b=some o)->R (.ok (.ret .none)) {s with heap:=h',toks:=s.toks+1}) :
  dD (aQ pw w) A (.call (.builtin "object.__setattr__") {[↑x,.str name tk,v],[]}) R s:=by
 show Lh X I hp ht λb=>?_;apply Y;obtain⟨cd,hc,hd'⟩:=rq hh;obtain⟨hx,hcl,hn,-⟩:=I;obtain⟨oc,odi,oda,osl⟩:=ox
 dsimp only at hcl hd hf
 clear hn;subst hcl hd hf;show ac (aB (ac (ac (mb hx (ac ((oF X hc).here ?_))))));apply @aM _ _ _ _ Y _ _;rw[hd'];have hx2:=bA (h:=s.heap) {cls:=.type "dict",data:=.dict #[]} hx;show ac (PySem.wpAny_alloc (ac (wpAny_update (s:={s with heap:=s.heap.push {cls:=.type "dict",data:=.dict #[]}}) hx2 ?_)));have D0:((s.heap.push {cls:=.type "dict",data:=.dict #[]}).update x (λo=>{o with dict:=some s.heap.objs.size})).DictOf (strKind pw w) s.heap.objs.size []:=
  (fX s.heap).at λo e=>(m8 _ _ (mz (gb hx))).trans e
 have X0:=cM (h:=s.heap.push {cls:=.type "dict",data:=.dict #[]}) (λo:jh=>{o with dict:=some s.heap.objs.size}) hx2 rfl;show aB (a:=some s.heap.objs.size) ?_;show ac (aB (ac ?_));show(let K4:=_;let K6:=_;(?_:@aM _ _ _ _ K4 _ K6));show J6 (s:={s with heap:=(s.heap.push {cls:=.type "dict",data:=.dict #[]}).update x (λo=>{o with dict:=some s.heap.objs.size})}) D0 (bV _) λh' D' sb=>?_;have D2:=D';obtain⟨od',es',ep',ho',hc',hd2,hk',hp',hn'⟩:=D';show ac (lm (s:={s with heap:=h',toks:=s.toks+1}) ho' ?_ ?_)
 .rw[hd2];show qf ?_;have:=hp'.length;simp only[jp]at this;have h1:=qa ([]:List (bY×aL)) name v;simp only[oP]at h1;lia
 .show aB (h _ D2 (Lk sb _ _ (mz (gb hx)) X0) λb o hb e=>?_);show Lk sb _ _ (mz (gb e)) ((m8 _ _ (fQ hb)).trans (bA _ e))
end
variable{F:Fx}{D:Dx}{m:Loc}{t:List Cl}{H:AH}{P:PH}{s:aW}{K:V->AH->Prop}
structure MkF(c f:aK):Prop where
 make:∀P,makesIn (Am P) c=true
 init:∀P,jJ (Am P) ↑c "__init__"=some (some ↑f)
 fn:∀P,nL (Am P) ↑f=some (.type "function")
theorem AOk.make{n:Nat}(a:AOk (n+1) A):AOk n (A.under (.builtin "type.__call__" {.ref c::xs,[]})):=by
 apply Y;obtain⟨d,u,q⟩:=a;show{by change A.depth+1+n<=900;show lin 0x13c272551053c27242a842 263 tt d,by change A.units+1+20*n<=8000;show lin 0x120000fa01bb2a23b510520000fa01bb2a23a2a842 263 tt u,q}
theorem WC.new(M:MkF c f)(hx:c∉excA)
  (h:∀x d,H x=none->H d=none->x≠d->WCc F ↑f (.ref x::vs) ((H.set d (.aa [])).set x (.inst c (some d))) λv H'=>v=.none/\K ↑x H'):WC F.u ↑c vs H K:=by
 show WCc.wc λA outer P s xs a fr fs hcl q r=>?_;obtain⟨hh,gn,dd,tk,os⟩:=s;have X:i8 (Am F.g.w.params) hh:=F.g.K.keeps q.base;have nd:hh.get? hh.objs.size=none:=Ak (bC _);have q1:=q.bb (h':=hh.push f8) (t:=tk) (o:=.aa []) (Bd _) nd {[],(λe=>absurd (gb (X _ _ (k3 _))) (by rw[e];decide)),fX _,.nil};have ex:((hh.push f8).push (gu c hh.objs.size)).get? (hh.objs.size+1)=some (gu c hh.objs.size):=by
  have:=bI (hh.push f8) (o:=gu c hh.objs.size) rfl;rwa [cY]at this
 have q2:=q1.bb (h':=(hh.push f8).push (gu c hh.objs.size)) (t:=tk) (o:=.inst c (some hh.objs.size)) (Bd _) (Ak (by rw[cY];show bC _)) (D4.plain hx ex);show Qr (makes_of X (M.make _)) (kZ X (M.init _)) (λself=>bind_fn X self (M.fn _)) (.inl rfl) ?_;apply @Ae _ _ _ Y _;show Be (h (hh.objs.size+1) hh.objs.size (q.fresh (Ak (jS _))).1 (q.fresh nd).1 (oM _) _ outer P ⟨_,gn,dd,tk,os⟩ (.ref (hh.objs.size+1)::xs) a.make fr fs hcl q2 (.cons rfl r)) λres s' z=>?_
 induction z using PC.casesOn with
 |ok x v H' P' k r' q' sub=>
  obtain⟨rfl,k⟩:=k;show{r',.ok _ ↑_ H' P' k rfl q' sub}
 |err X' H' P' b k tb q' sub=>show .err X' H' P' b k tb q' sub
inductive ExcC(P:g7)(c:aK):Prop
 |mk{nm q N bs bm hdct sn sub ab col dd k0 k1 k2 k3 k5}(h:(Am P).lookup c=some (iW nm q c N bs bm hdct sn sub ab col dd k0 k1 k2 k3 k5 "ValueError.__new__"))
  (hb:∀X,bm.contains (.type X)=[qh "ValueError",.type "Exception",.type "BaseException",.type "object"].contains (.type X))
structure ExcF(c f:aK):Prop where
 mem:c∈excA
 cls:∀P,ExcC P c
 chk:∀P S x,peek (Am P) S (eA "ValueError.__new__" {[↑c,x],[]})=some ()
 init:∀P,jJ (Am P) ↑c "__init__"=some (some ↑f)
 fn:∀P,nL (Am P) ↑f=some (.type "function")
theorem FrK.make(d:FrK c D):FrK c {D with A:=D.A.under (.builtin "type.__call__" {.ref c'::xs,[]})}:=by
 apply @FrK _ Y;induction d using FrK.casesOn with
 |fn e f l k=>show .fn e f l k
 |co e f=>show .co e f
theorem DOk.make(d:DOk F.u D):DOk F {D with A:=D.A.under (.builtin "type.__call__" {.ref c::xs,[]})}:={d.a.make,d.fk.make,d.cl,d.kind,d.glob,d.blt,d.nd,d.kinds,d.ok,d.lof,d.apart,d.celn,d.code}
theorem WC.newX(M:ExcF c f)(h:∀x,H x=none->WC F ↑f [↑x,v] (H.set x (.inst c none)) λv H'=>v=.none/\K ↑x H'):WC F.u ↑c [v] H K:=by
 intro D m t P s xs ok r;apply @A2 _ _ _ _ Y _ _;obtain⟨y,rfl,ry⟩:=r.one;obtain⟨hh,gn,dd,tk,os⟩:=s;have X:=ok.bp;obtain⟨hC,hbm⟩:=M.cls F.g.w.params;have nx:(hh.push {cls:=.type "tuple",data:=.seq [y].toArray}).get? (hh.objs.size+1)=none:=Ak (by rw[cY];show bC _);have ex:((hh.push {cls:=.type "tuple",data:=.seq [y].toArray}).push {cls:=.ref c,data:=.fields #[↑hh.objs.size,.none,.none,.none,.bool false,.none]}).get? (hh.objs.size+1)=some {cls:=.ref c,data:=.fields #[↑hh.objs.size,.none,.none,.none,.bool false,.none]}:=by
  have:=bI (hh.push {cls:=.type "tuple",data:=.seq [y].toArray}) (o:={cls:=.ref c,data:=.fields #[↑hh.objs.size,.none,.none,.none,.bool false,.none]}) rfl;rwa [cY]at this
 have ok1:=ok.grow (h':=hh.push {cls:=.type "tuple",data:=.seq [y].toArray}) (n:=tk) (Bd _);have ok2:=ok1.same (ok1.q.bb (h':=(hh.push {cls:=.type "tuple",data:=.seq [y].toArray}).push {cls:=.ref c,data:=.fields #[↑hh.objs.size,.none,.none,.none,.bool false,.none]}) (t:=tk) (o:=.inst c none) (Bd _) nx (D4.exc M.mem _ _ _ _ _ ex));show Tw kL hbm (X _ _ hC) (kZ X (M.init _)) (kY X (M.fn _)) (show 1<=dM by decide) (p8 X (M.chk _ _ _)) ?_;apply @A2 _ _ _ _ Y _ _;have ok3:Ok F {D with A:=D.A.under (.builtin "type.__call__" {.ref c::[y],[]})} m t _ P _:={ok2.d.make,ok2.q,ok2.sub,ok2.nm,ok2.loc,ok2.cel,ok2.stk,ok2.ap};show A4 (h _ (ok.q.fresh (Ak (jS _))).1 _ m t P _ _ ok3 (.cons rfl (.cons ry .nil))) (λz s1 p=>?_) λe s' p=>?_
 .obtain⟨v,H1,P1,⟨rfl,k⟩,ok4⟩:=p;rw[ok4.top];show{rfl,(show Ok F.u D m t H1 P1 s1 from{ok.d,ok4.q,ok4.sub,ok4.nm,ok4.loc,ok4.cel,ok4.pop.stk,ok4.ap}).val k rfl}
 .obtain⟨X',H',P',b,p,k,e,tb,hp,q,br⟩:=p;show{X',H',P',b,p,k,e,tb,hp,q,br.loc,br.cel,br.sub}
theorem Ok.dy{nm:bY}(ok:Ok F D m t H P s)(C:StF c)(T:AtF c nm)(e:H a=some (.inst c none))(hx:c∈excA)(r:VR P v y)
  (h:∀d s',H d=none->Ok F D m t ((H.set d (.aa [(nm,v)])).set a (.inst c (some d))) P s'->Q () s'):A2 F.g.M D.A (lE ↑a nm y) Q E s:=by
 induction ((ok.q.own a _ e).2.2) using D4.casesOn with
 |plain hc=>show absurd hx hc
 |exc _ a0 f2 f3 f4 f5 z=>
  have X:=ok.bp;have ht:kV (Am F.g.w.params) c nm=some none:=by unfold kV;rw[T _];rfl
  have I:InstAt s.heap a _ c none:=⟨z,rfl,rfl,trivial⟩;show lf <| set_plain X I (C.sa _) (Qy (s:={s with toks:=s.toks+1}) X I rfl rfl (C.po _) ht (C.hd _) λh' D' ex kp=>?_);have n0:=Ak (h:=s.heap) (bC _);obtain⟨e1,e2,e0⟩:=ok.q.fresh n0;show h _ _ e1 (ok.same ?_);apply @Rel _ _ _ Y;obtain⟨b0,p0,f⟩:=ok.q.own a _ e;have same:∀b o,b≠a->s.heap.get? b=some o->h'.get? b=s.heap.get? b:=λb o n q=>(kp b o n q).trans q.symm;show{λb o q=>kp b o (λy=>by rw[y,b0]at q;show absurd q.symm (aF _)) (ok.q.base b o q),λb o q=>?_,λb p q=>?_,ok.q.gens,ok.q.os}
  .unfold AH.set at q;split at q
   .next y=>clear nm v Q E ok C T e r h z X ht I D' kp n0 e1 e2 e0 f same;rw[y];apply Y;injection q with q;subst q;show{b0,p0,D4.exc hx a0 f2 f3 f4 f5 ex}
   .next y=>
    split at q
    .next y=>rw[y];injection q with q;subst q;show{e0,e2,_,ok.nsm,D',.cons r .nil}
    .apply Y;obtain⟨z1,z2,z3⟩:=ok.q.own b o q;obtain⟨ob,w⟩:=z3.there;show{z1,z2,z3.at (.refl P) (same b ob y w)}
  .obtain⟨z1,z2⟩:=ok.q.prv b p q;obtain⟨ob,w⟩:=z2.there;show{z1,z2.at (.refl P) (same b ob (λy=>by rw[y,p0]at q;show absurd q.symm (aF _)) w)}
theorem AH.d8(e:H a=some o):H.set a o=H:=by
 funext b;by_cases h:b=a
 .subst h;show(if_pos rfl).trans e.symm
 .show if_neg h
theorem WC.fo(M:ExcF c f)(e:H a=some (.inst c d))(h:K .none H):WC F (.builtin "ValueError.__init__") [↑a,v] H K:=by
 intro D m t P s xs ok r;apply Y;obtain⟨b,y,rfl,rfl,ry⟩:=r.two;obtain⟨hh,gn,dd,tk,os⟩:=s;obtain⟨hC,hbm⟩:=M.cls F.g.w.params
 induction ((ok.q.own a _ e).2.2) using D4.casesOn with
 |plain hc=>show absurd M.mem hc
 |exc _ a0 f2 f3 f4 f5 z=>
  show lf <| Jz kL hbm ((ok.bp) _ _ hC) z rfl rfl rfl (show 1<=dM by decide) ?_;have ok1:=ok.grow (h':=hh.push {cls:=.type "tuple",data:=.seq [y].toArray}) (n:=tk) (Bd _);have z1:=bA (h:=hh) {cls:=.type "tuple",data:=.seq [y].toArray} z;have ok2:=ok1.c8 (n:=tk) (o':=.inst c d) e (cJ ..) (D4.exc M.mem ↑hh.objs.size f2 f3 f4 f5 (cM (iO (·.setIfInBounds 0 ↑hh.objs.size)) z1 rfl));simp only[AH.d8 e]at ok2;show ok2.val h rfl
theorem WE.fo(hs:NoStars args)(hf:args.length<30)(hl:ap.endLine=pos.line)(hm:(x,.globalImplicit,ov)∈m)(G:BltF x (.type "ValueError"))
  (h:WEs F m H args λvs H1=>WC F (.builtin "ValueError.__init__") vs H1 K):WE F m H (.Call (.Attribute (.Name x np) "__init__" ap) args [] pos) K:=by
 intro D t P s ok;show Fy (λa a=>rfl) hs hf hl (G.load hm ok λpl=>?_);have X:=ok.bp;have ht:gJ (.type "ValueError")=pure (.type "type"):=⋯;have hstub:lz (.type "ValueError")=pure m6:=by unfold lz;dsimp only;rw[show Manifest.isStub "ValueError"=false from by kernel_rfl];rfl
 have L0:dU F.g.M s.heap (gJ (.type "ValueError")) (.type "type"):=lH ht;have hg:jJ (Am F.g.w.params) (.type "type") "__getattribute__"=some (some (.builtin "type.__getattribute__")):=type_tga;have fc:findCls (Am F.g.w.params) (.type "ValueError") (.type "type") "__init__"=some (.val (.builtin "ValueError.__init__")):=rfl
 delta kJ nr
 show A0 (A0 (lf <| L0.here (lf <| (kZ X hg).here ?_)))
 dsimp only
 show A0 (A4 (Q:=λv s'=>A2 F.g.M D.A (jM pos v [] (hH pos (eK args D.env)) []) _ _ s') (E:=PX F D) ?_ (λa a z=>A1 z) λa a z=>z);have LO:dU F.g.M s.heap (lz (.type "ValueError")) m6:=lH hstub;have fin:A2 F.g.M D.A (jM pos (.builtin "ValueError.__init__") [] (hH pos (eK args D.env)) []) (PV F D m t K) (PX F D) {s with toks:=s.toks+1}:=
  Cr (first:=[]) (s:={s with toks:=s.toks+1}) hs (λh a=>{.machine,.inr (.inl rfl),.of_pure rfl}) h (ok.toks _) λvs H1 P1 s1 xs k r ok1=>k D m t P1 s1 xs ok1 r
 show lf <| cls_open X LO L0 hg (looks_hook X (r:=m6) (by rfl)) (by change subIn _ _ _=_;rfl) fc (aB ?_);show aB fin
theorem WE.binit(hs:NoStars args)(hf:args.length<30)(hl:ap.endLine=pos.line)(hm:(x,.globalImplicit,ov)∈m)(G:Ff x ↑39)
  (h:WEs F m H args λvs H1=>WC F ↑36 vs H1 K):WE F m H (.Call (.Attribute (.Name x np) "__init__" ap) args [] pos) K:=by
 intro D t P s ok;have X:=ok.bp;have hk:mn (Am F.g.w.params) ↑36=true:=rfl;have hsp:specialIn (Am F.g.w.params) ↑39 "__getattribute__"=some (some (.builtin "type.__getattribute__")):=⋯;have hr:readsIn (Am F.g.w.params) 39 (.type "type")=true:=⋯;have fc:findCls (Am F.g.w.params) ↑39 (.type "type") "__init__"=some (.val ↑36):=⋯;show Fy (λa a=>rfl) hs hf hl (G.load hm ok λpl=>?_);apply @A2 _ _ _ _ Y _ _;show lf <| method_cls X hsp (cls_value X hr fc (by rfl) ?_);show Cr (first:=[]) (s:={s with toks:=s.toks+1}) hs (λh X=>keeps_K hk h X) h (ok.toks _) λvs H1 P1 s1 xs k r ok1=>k D m t P1 s1 xs ok1 r
variable{KR:V->AH->Prop}{KN:Loc->AH->Prop}
structure RsF(c:aK):Prop where
 sub:∀P,subIn (Am P) ↑c (.type "BaseException")=some true
 typ:∀P,nL (Am P) ↑c=some (.type "type")
theorem Ok.raised{d:Option aK}(ok:Ok F D m t H P s)(e:H a=some (.inst c d))(hx:c∈excA)(k:F.KX c (H.del a)):PX F D ↑a s:=by
 apply Y;obtain⟨b0,p0,o⟩:=ok.q.own a _ e
 induction (show D4 s.heap a c d from o) using D4.casesOn with
 |plain h=>show absurd hx h
 |exc _ a0 f2 f3 f4 f5 z=>
  show{c,_,P.set a (.exc c none),a,none,k,rfl,.fresh ?_ (if_pos rfl),.inl rfl,ok.q.hand e (.mk z rfl rfl rfl),ok.bare.mono λb p q=>PH.new p0 b p q}
  induction y:D.P₀ a using Option.casesOn with
  |none=>rfl
  |some p=>rw[ok.sub _ _ y]at p0;show absurd p0 (aF _)
theorem WS1.raise(h:WE F m H e λv H1=>∃a c d,v=.ref a/\H1 a=some (.inst c d)/\c∈excA/\RsF c/\F.KX c (H1.del a)):WS1 F KR m H (.Raise (some e) none p) KN:=by
 intro D t P s ok;apply @A2 _ _ _ _ Y _ _;change A2 _ _ (do
  cQ p
  raiseStmt D.env (some (do let v <- ch e D.env;cQ p;pure v)) none) _ _ _
 show A0 (A5 ?_);show A0 (A0 (h.seq ok λx s₁ v H₁ P₁ k ok1=>A0 (A5 (A1 ?_))));apply Y;obtain⟨a,c,d,rfl,e1,hx,R,k⟩:=k;obtain rfl:=ok1.top
 induction ((ok1.q.own a _ e1).2.2) using D4.casesOn with
 |plain h=>show absurd hx h
 |exc _ a0 f2 f3 f4 f5 o1=>
 show A0 (A1 (A0 (A3 ?_)));show A0 (lf <| (show dU F.g.M s₁.heap (isExcClass ↑a) false from((gh o1).andThen .now:dU F.g.M s₁.heap (pB ↑a) false).andThen .now).here ?_);show A0 (lf <| (show dU F.g.M s₁.heap (kG ↑a (.type "BaseException")) true from((gh o1).andThen .now:dU F.g.M s₁.heap (gJ ↑a) ↑c).andThen (jG (ok1.bp) (R.sub _))).here (A1 (A0 (lf <| ((gh o1).andThen .now:dU F.g.M s₁.heap (pB ↑a) false).here ?_))));show A0 ?_;show A0 (lf <| ((gh o1).andThen .now:dU F.g.M s₁.heap (gJ ↑a) ↑c).here (A0 (lf <| (kY (ok1.bp) (R.typ _)).here ?_)));show A1 (A0 ?_);show A0 (lf <| wpAny_field (x:=.none) o1 rfl rfl ?_);show A1 (lf <| wpAny_raiseNew_none ok1.d.a.quiet (ok1.raised e1 hx k))
theorem N4(Lt:dU M s.heap (gJ ↑a) ↑c)(Lc:dU M s.heap (gJ ↑c') (.type "type"))(Ly:dU M s.heap (pB ↑c') true)
  (Lb:dU M s.heap (jT ↑c' (.type "BaseException")) true) (Ls:dU M s.heap (jT ↑c ↑c') b) (h:Q b s):aM M A (excMatches ↑a ↑c') Q E s:=by
 show ac ((Lc.andThen (lH tc_notTuple)).here ?_);show ac (aB ?_)
 dsimp only
 rw[jd];show ac (ac (ac ((show dU M s.heap (isExcClass ↑c') true from Ly.andThen Lb).here ?_)));show aB ?_;show aB (ac (Lt.here ?_));rw[jd];show ac (ac (ac (Ls.here ?_)));apply @aM _ _ _ _ Y _ _;clear Ls;induction b using Bool.casesOn with
 |true=>show aB (aB (aB h))
 |false=>show aB (aB (aB h))
structure HdF(c':aK):Prop where
 typ:∀P,nL (Am P) ↑c'=some (.type "type")
 base:∀P,subIn (Am P) ↑c' (.type "BaseException")=some true
 isT:∀P,∃o cd,(Am P).lookup c'=some o/\o.data=.cls cd
def SubF(c c':aK)(b:Bool):Prop:=∀P,subIn (Am P) ↑c ↑c'=some b
class inductive HdR(F:Fx)(kp:Loc)(KR:V->AH->Prop)(m:Loc)(X:aK)(H':AH):List ExceptHandler->Prop
 |on(k:F.KX X H'):HdR F kp KR m X H' []
 |no{x np b₀ bs hp rest c' ov}(G:Ff x ↑c')(hm:(x,.globalImplicit,ov)∈m)(C:HdF c')(B:SubF X c' false)(k:HdR F kp KR m X H' rest):HdR F kp KR m X H' (.ExceptHandler (some (.Name x np)) none (b₀::bs) hp::rest)
 |hit{x np e rp hp rest c' ov}(G:Ff x ↑c')(hm:(x,.globalImplicit,ov)∈m)(C:HdF c')(B:SubF X c' true)
   (k:(∃w kw kk,e=.Constant (.str w) kw kk/\KR (.str w) H')\/∃y p w,e=.Name y p/\(y,.local,some w)∈kp/\(y,.local,some w)∈m/\KR w H'):HdR F kp KR m X H' (.ExceptHandler (some (.Name x np)) none [.Return (some e) rp] hp::rest)
theorem Gr{b:Bool}{t:cR}
  (h:∀Q' E',Q' ↑c' s->A2 (aQ prog w) (A.mark (some ↑e)) (ch t env) Q' E' s) (Lt:dU (aQ prog w) s.heap (gJ ↑e) ↑c) (Lc:dU (aQ prog w) s.heap (gJ ↑c') (.type "type")) (Ly:dU (aQ prog w) s.heap (pB ↑c') true)
  (Lb:dU (aQ prog w) s.heap (jT ↑c' (.type "BaseException")) true) (Ls:dU (aQ prog w) s.heap (jT ↑c ↑c') b)
  (k:bif b then ∀E',A2 (aQ prog w) (A.mark (some ↑e)) (nu ↑e none) (λa s₂=>A2 (aQ prog w) (A.mark (some ↑e)) (kg (b₀::suite) env) Q E' s₂) E' s else A2 (aQ prog w) A (j6 ↑e env rest) Q E s) :
  A2 (aQ prog w) A (j6 ↑e env (.ExceptHandler (some t) none (b₀::suite) pos::rest)) Q E s:=by
 show Fc (Ee (h _ _ (lf <| N4 Lt Lc Ly Lb Ls ?_))) (by intro q;contradiction)
 induction b using Bool.casesOn with
 |true=>show E6 (k _)
 |false=>show k
theorem caught{F':Fx}(ok0:Ok F D m t H P s)(hg:F'.g=F.g)(h:HdR F F'.keep KR m X H' hs)(tb:Tb D.P₀ P' a X none)(ht:∃T,P' a=some (.exc X (some T)))(q:Rel F.g H' P' s')(b:Bare F' D P')(hkp:F.keep=[]):
  A2 F.g.M D.A (j6 ↑a D.env hs) (PS F D t KR KN) (PX F D) s':=by
 apply @A2 _ _ _ _ Y _ _;obtain⟨T,ht⟩:=ht
 cases tb with
 |fresh _ e=>rw[ht]at e;show nomatch e
 |@on T' o ts _ n nT e eT hd h3=>
 have e':=ht.symm.trans e;rcases e';obtain⟨c,⟨e1,e4,e2,e3⟩⟩:=q.prv a _ e;have i3:=(cC.mp h3).1;have Fr:=F.g.K.keeps q.base;have Lt:dU F.g.M s'.heap (gJ ↑a) ↑X:=by simp only[<- e4];show(gh e1).andThen .now
 have ld:∀{x:bY}{c':aK}{ov:Option V}{np:ki}(G:Ff x ↑c')(hm:(x,NameKind.globalImplicit,ov)∈m)Q' E',Q' ↑c' s'->A2 F.g.M (D.A.mark (some ↑a)) (ch (.Name x np) D.env) Q' E' s':=λG hm Q' E' hq=>by
  show Bw ok0.d.kind (ok0.kd hm).1 ?_ (Pf (ok0.kd hm).2).1;unfold mi;show ok0.d.glob▸A0 (lf <| (mh Fr (G.look _)).here (A1 hq))
 have isT:∀{c'},HdF c'->dU F.g.M s'.heap (pB ↑c') true:=λC=>by
  apply Y;obtain⟨o,cd,h1,h2⟩:=C.isT F.g.w.params;obtain⟨oc,od,odt,osl⟩:=o;subst h2;show(gh (Fr _ _ h1)).andThen .now
 induction h with
 |on k=>
  show Ft ?_;show A0 (lf <| wpAny_field (x:=.ref T) e1 e2 e3 ?_);show A0 (lf <| Tb.de n nT e eT hd i3 q (.refl b.sub) λP'' h'' tb'' q'' ks=>lf <| PySem.wpAny_throw {X,H',P'',a,_,k,rfl,tb'',.inr rfl,q'',?_});show{((b.ks ks).loc).elim λnsm y0=>y0.elim λx _=>{nsm,x,(hkp▸λc c h=>absurd h aD)},(b.ks ks).cel,(b.ks ks).sub}
 |no G hm C B k ih=>show Gr (b:=false) (ld G hm) Lt (kY Fr (C.typ _)) (isT C) (jG Fr (C.base _)) (jG Fr (B _)) ih
 |hit G hm C B k=>
  show Gr (b:=true) (ld G hm) Lt (kY Fr (C.typ _)) (isT C) (jG Fr (C.base _)) (jG Fr (B _)) λE'=>?_;apply @A2 _ _ _ _ Y _ _;show lf <| Tb.de (p':=none) n nT e eT hd i3 q (.refl b.sub) λP'' h'' tb'' q'' ks=>?_;rcases k with⟨w,kw,kk,rfl,k⟩|⟨y,p,w,rfl,hy,hm',k⟩
  .show A0 (Cq (lf <| wpAny_Constant_str (A1 (.ret _ (.str w) H' P'' k ⟨_,rfl⟩ (q''.toks _) ks.sub))))
  .obtain⟨nsm,x,l⟩:=(b.ks ks).loc;obtain⟨z,ez,r⟩:=l y w hy;show A0 (Cq (Gf (lf <| wpAny_loadName_local ok0.d.kind (ok0.kd hm').1 (q''.prv _ _ x).2 ez (A1 (.ret _ w H' P'' k r q'' ks.sub))) (Pf (ok0.kd hm').2).1))
theorem WS1.try(KX':KXT)(kp:Loc)(hkp:F.keep=[])(hco:F.co=false)(hk:∀y ov,(y,.local,some ov)∈kp->(y,.local,some ov)∈m)(hb:WS {F with KX:=KX',keep:=kp} KR m H body KN)(hh:∀X H',KX' X H'->HdR F kp KR m X H' (h0::hs)):
  WS1 F KR m H (.Try body (h0::hs) [] [] p) KN:=by
 intro D t P s ok;have dd:DOk {F with KX:=KX',keep:=kp} D:={ok.d.a,ok.d.fk,ok.d.cl,ok.d.kind,ok.d.glob,ok.d.blt,ok.d.nd,ok.d.kinds,ok.d.ok,ok.d.lof,ok.d.apart,ok.d.celn,ok.d.code};have ok1:Ok {F with KX:=KX',keep:=kp} D m t H P s:={dd,ok.q,ok.sub,ok.nm,(ok.loc).elim λn y0=>y0.elim λe y1=>y1.elim λl _=>{n,e,l,λy w hy=>l y w (hk y w hy)},ok.cel,ok.stk,ok.ap};show Gy (A4 (hb D t P s ok1) (λfl s₁ q=>?_) λe s₁ px=>?_)
 .induction q using PS.casesOn with
  |next m' H' P' k ok'=>show Db (.next m' H' P' k {ok.d,ok'.q,ok'.sub,ok'.nm,(ok'.loc).elim λn y0=>y0.elim λe y1=>y1.elim λl _=>{n,e,l,(hkp▸λc c h=>absurd h aD)},ok'.cel,ok'.stk,ok'.ap})
  |ret x v H' P' k r q sub=>show .ret x v H' P' k r q sub
 .apply @A2 _ _ _ _ Y _ _;obtain⟨X,H',P',a,p,k,rfl,tb,hp,q,b⟩:=px;obtain⟨fr,fs,loc⟩:=(hco▸ok.d.fk).head b.sub ((b.loc).elim λn y0=>y0.elim λe _=>⟨n,e⟩);show lf <| tb.note fr fs loc (loc▸hp) q (.refl b.sub) λP1 h1 tb1 q1 ks1=>?_
  cases tb1 with
  |@on T o ts _ n nT e eT hd h3=>
   obtain⟨c,⟨e1,c,e2,e3⟩⟩:=q1.prv a _ e;show lf <| ac (wpAny_field (x:=.ref T) e1 e2 e3 ?_);have ne:a≠T:=λy=>by simp only[y,eT]at e;show nomatch e
   have ea:(P1.set T (.obj (o.mapFields (·.setIfInBounds 3 ((none:Option aK).elim .none λf=>cZ f))))) a=some (.exc X (some T)):=(if_neg ne).trans e;show q1.field eT hd (cC.mp h3).1 λh2 q2=>?_;show caught (F':={F with KX:=KX',keep:=kp}) ok rfl (hh X H' k) (.on n nT ea (if_pos rfl) (eO hd _) (by simp[(cC.mp h3).1])) ⟨T,ea⟩ q2 (b.ks (ks1.set nT eT (.inl ⟨_,rfl⟩))) hkp
theorem WS1.tryRet(hkp:F.keep=[])(hco:F.co=false)(h:WE {F with KX:=NX} m H e KR):WS1 F KR m H (.Try [.Return (some e) rp] (h0::hs) [] [] p) KN:=
 WS1.try NX [] hkp hco (λb b h=>absurd h aD) (.cons (.ret (hkp▸h))) λb b h=>h.elim
theorem VM.getD{κ:Type}[DecidableEq κ]{mm:List (κ×V)}{xs:List (κ×aL)}(r:VM P mm xs)(k:κ)(h:VR P w y):VR P ((lget mm k).getD w) ((pM xs k).getD y):=by
 rw[Cw];rcases r.get k with⟨e,e'⟩|⟨a,a,e,e',r⟩<;>rw[e,e']
 .show h
 .show r
theorem WC.fy(as:AsI H v mm)(h:K ((lget mm k).getD .none) H):WC F (.builtin "dict.get") [v,.int k] H K:=by
 intro D m t P s ys ok r;apply @A2 _ _ _ _ Y _ _;obtain⟨a,a,rfl,r1,a,rfl⟩:=r.two;obtain⟨l,xs,e9,ns,z,r⟩:=ok.asI as r1;rw[e9];show lf <| call_meetsIn cB z.typeIs lG (PySem.F.args_dict_get_2 _ _) (meets_dict_get (gH pw F.g.w) l Dy (by simpa using ns)) {_,z.mapOf,(ok.toks _).val h (r.getD k rfl)}
theorem WC.dh(as:AsI H v mm)(h:K ((lget mm k).getD w) H):WC F (.builtin "dict.get") [v,.int k,w] H K:=by
 apply @WC _ _ Y _ _;intro D m t P s ys ok r;apply @A2 _ _ _ _ Y _ _;obtain⟨a,a,z,rfl,r1,⟨a,rfl⟩,r3⟩:=r.three;obtain⟨l,xs,e9,ns,z',r⟩:=ok.asI as r1;rw[e9];show lf <| call_meetsIn cB z'.typeIs lG (PySem.F.args_dict_get_3 _ _ _) (meets_dict_get_default (gH pw F.g.w) l Dy (by simpa using ns) z) {_,z'.mapOf,(ok.toks _).val h (r.getD k r3)}
theorem Gm.ae{id:String}(slot:mu "dict" name id)(hty:gJ (.builtin id)=pure (.type "method_descriptor"))(as:AsI H v mm):Gm F H v name id:=by
 intro D m t P s x pl Q E ok r hq;apply Y;obtain⟨l,xs,rfl,ns,z,r⟩:=ok.asI as r;show lf <| getMethod_builtin z.typeIs PySem.F.plainAttrs_dict slot hty z.mapOf.noDict hq
def WP(F:Fx)(m:Loc)(H:AH)(x:Option cR)(K:Option Int->AH->Prop):Prop:=
 ∀D t P s,Ok F D m t H P s->A2 F.g.M D.A (mq x D.env) (λv s'=>∃i H' P',K i H'/\rB v i/\Ok F D m t H' P' s') (PX F D) s
theorem WP.none{K:Option Int->AH->Prop}(h:K .none H):WP F m H .none K:=λD t P s ok=>lf <| wpAny_evalPart_none {_,H,P,h,.none,ok}
theorem WP.some{K:Option Int->AH->Prop}(h:WE F m H e λv H1=>∃i,v=.int i/\K (.some i) H1):WP F m H (.some e) K:=λD t P s ok=>
 Fa (h.seq ok λx s₁ v H₁ P1⟨i,e,k⟩ok1=>by
  subst e;obtain⟨a,rfl⟩:=ok1.top;show{_,H₁,P1,k,.int i _,ok1.pop})
def H0(xs:List V)(lo hi st:Option Int):List V:=(sliceRange (gN lo hi st xs.length).1 (gN lo hi st xs.length).2.1 (gN lo hi st xs.length).2.2).filterMap (xs[·]?)
theorem VRs.pick{xs:List V}{vs:List aL}(r:VRs P xs vs)(ks:List Nat):VRs P (ks.filterMap (xs[·]?)) (ks.filterMap (vs.toArray[·]?)):=by
 induction ks with
 |nil=>show .nil
 |cons k ks ih=>
  rw[jv,jv,eU];rcases r.get k with⟨e,e'⟩|⟨a,a,e,e',rx⟩<;>rw[e,e']
  .show ih
  .show .cons rx ih
section
variable{w:gE}{A:dX}{E:aL->aW->Prop}{env:oT}
theorem Gs{lower upper step:Option cR}
  (h:A2 (aQ pw w) A (mq lower env) (λl s₁=>A2 (aQ pw w) A (mq upper env) (λu s₂=>A2 (aQ pw w) A (mq step env) (λst s₃=>Q ↑s₃.heap.objs.size {s₃ with heap:=s₃.heap.push {cls:=.type "slice",data:=.fields #[l,u,st]}}) E s₂) E s₁) E s) :
  A2 (aQ pw w) A (ch (.Slice lower upper step p) env) Q E s:=by
 show A0 (A4 h (λl s₁ h₁=>A0 (A3 (A4 h₁ (λu s₂ h₂=>A0 (A3 (A4 h₂ (λst s₃ h₃=>lf (iU h₃)) λa a x=>x))) λa a x=>x))) λa a x=>x)
theorem Cx{lower upper step:Option cR}{T id:String}
  (hl:dE (.type T) "__getitem__"=pure (some (.builtin id)))
  (h:A2 (aQ pw w) A (ch value env) (λo s₁=>A2 (aQ pw w) A (ch (.Slice lower upper step p) env) (λi s₂=>s₂.TypeIs o T/\kAny (aQ pw w) A (i5 o i) Q E s₂) E s₁) E s)
  (ht:∀o r,dQ value o r=pure ()) :
  A2 (aQ pw w) A (ch (.Subscript value (.Slice lower upper step p) pos) env) Q E s:=by
 show A0 (A4 h (λo s₁ h₁=>A0 (A3 (A4 h₁ (λi s₂ h₂=>A0 (A5 (lf ?_))) λa a x=>x))) λa a x=>x);have fin:∀vs,kAny (aQ pw w) A (jc vs (i5 o i)) (λr s₃=>kAny (aQ pw w) A (dQ value o r >>= λa=>pure r) Q E s₃) E s₂:=
  λvs=>PySem.wpAny_operating (iK h₂.2 (λr s₃ h₃=>ac (bQ (ht o r) (aB h₃))) λa a x=>x)
 show ac ?_;show ac (wpAny_specialOf h₂.1 hl ?_);clear h h₁;rcases step<;>show aB (ac (fin _))
end
theorem WP.three{lo hi st:Option cR}{R:V->Option Int->Option Int->Option Int->AH->Prop}{Q:aL->aL->aW->Prop}
  (h:WE F m H value λo H1=>WP F m H1 lo λl H2=>WP F m H2 hi λu H3=>WP F m H3 st λc H4=>R o l u c H4) (ok:Ok F D m t H P s)
  (n:∀o x l u c vl vu vc s' H' P',R o l u c H'->rB vl l->rB vu u->rB vc c->Ok F D m (.val o x::t) H' P' s'->Q x (.ref s'.heap.objs.size) {s' with heap:=s'.heap.push {cls:=.type "slice",data:=.fields #[vl,vu,vc]}}) :
  A2 F.g.M D.A (ch value D.env) (λx s₁=>A2 F.g.M D.A (ch (.Slice lo hi st p) D.env) (Q x) (PX F D) s₁) (PX F D) s:=by
 show h.seq ok λx s₁ o H₁ P₁ k ok1=>Gs ?_;apply @A2 _ _ _ _ Y _ _;show A4 (k D _ P₁ s₁ ok1) (λvl s₂ z9=>z9.elim λl y0=>y0.elim λH₂ y1=>y1.elim λP₂ y2=>y2.elim λk₂ y3=>y3.elim λpl ok2=>?_) λa a p=>p;show A4 (k₂ D _ P₂ s₂ ok2) (λvu s₃ z9=>z9.elim λu y0=>y0.elim λH₃ y1=>y1.elim λP₃ y2=>y2.elim λk₃ y3=>y3.elim λpu ok3=>?_) λa a p=>p;apply @A2 _ _ _ _ Y _ _;show A4 (k₃ D _ P₃ s₃ ok3) (λvc s₄ z9=>z9.elim λc y0=>y0.elim λH₄ y1=>y1.elim λP₄ y2=>y2.elim λk₄ y3=>y3.elim λpc ok4=>n _ _ _ _ _ _ _ _ _ _ _ k₄ pl pu pc ok4) λa a p=>p
theorem WE.slice{lo hi stp:Option cR}(ht:∀o r,dQ value o r=pure ())
  (h:WE F m H value λo H1=>WP F m H1 lo λl H2=>WP F m H2 hi λu H3=>WP F m H3 stp λc H4=>∃ow xs,AsL H4 o ow xs/\c ≠ .some 0/\xs.length<=2^20/\K (.list (H0 xs l u c)) H4):WE F m H (.Subscript value (.Slice lo hi stp p) pos) K:=by
 intro D t P s ok;apply @A2 _ _ _ _ Y _ _;show Cx (T:="list") jY (WP.three h ok λo x l u c vl vu vc s₄ H₄ P₄ k pl pu pc ok4=>?_) ht;apply Y;obtain⟨ow,xs,as,hc,hz,k⟩:=k;obtain⟨ad,vs,rfl,il,rs⟩:=ok4.asL as ok4.top;have len:=rs.len;have sz:=szl;show{(il.isList.push _).typeIs,wpAny_getItem_list_slice (il.isList.push _) (iS ..) pl pu pc hc ?_ (by rw[aN];lia)};simp only[cY];show ok4.pop.newL (s:=s₄) (n:=s₄.toks) (λb q e=>bA _ (bA _ e)) (Ak (jS _)) (vs:=qc vs.toArray l u c) (c:=0) ?_ ?_ k
 .have:=bI (s₄.heap.push {cls:=.type "slice",data:=.fields #[vl,vu,vc]}) (o:={cls:=.type "list",data:=.seq (qc vs.toArray l u c)}) rfl;rwa [cY]at this
 .unfold qc;rw[aN,<- len];show rs.pick _
def cutB(b:List UInt8)(lo hi:Option Int):List UInt8:=(b.drop (lo.elim 0 (clipAt b.length))).take (hi.elim b.length (clipAt b.length)-lo.elim 0 (clipAt b.length))
theorem WE.sliceB{lo hi:Option cR}(ht:∀o r,dQ value o r=pure ())
  (h:WE F m H value λo H1=>WP F m H1 lo λl H2=>WP F m H2 hi λu H3=>∃b,o=.bytes b/\b.length<=2^20/\K (.bytes (cutB b l u)) H3):WE F m H (.Subscript value (.Slice lo hi .none p) pos) K:=by
 intro D t P s ok;apply @A2 _ _ _ _ Y _ _;show Cx (T:="bytes") gI.lookup (WP.three (R:=λo l u c H=>c=.none/\∃b,o=.bytes b/\b.length<=2^20/\K (.bytes (cutB b l u)) H) (h.mono λa a k=>?_) ok λo x l u c vl vu vc s₄ H₄ P₄ k pl pu pc ok4=>?_) ht
 .apply @WP _ _ _ _ Y;intro D t P s ok;apply @A2 _ _ _ _ Y _ _;show A4 (k D t P s ok) (λvl s₂ z9=>z9.elim λl y0=>y0.elim λH₂ y1=>y1.elim λP₂ y2=>y2.elim λk₂ y3=>y3.elim λpl ok2=>{l,H₂,P₂,?_,pl,ok2}) λa a p=>p;intro D t P s ok;apply @A2 _ _ _ _ Y _ _;show A4 (k₂ D t P s ok) (λvl s₂ z9=>z9.elim λl y0=>y0.elim λH₂ y1=>y1.elim λP₂ y2=>y2.elim λk₂ y3=>y3.elim λpl ok2=>{l,H₂,P₂,.none ⟨rfl,k₂⟩,pl,ok2}) λa a p=>p
 .apply Y;obtain⟨rfl,b,rfl,hz,k⟩:=k;obtain⟨tk,rfl⟩:=ok4.top;rcases pc;have sz:=szl;show⟨cH _ _ _,getItem_meets (cH _ _ _) rfl gI rF (rG _ _) (KBc.meets_slice2 b.toArray tk _ pl pu)
   {iS _ _ _ _,aC (KBc.size_picked_le _ _ _) (by rw[aN];show aC ‹_› (nle rfl)),λt' n=>(ok4.pop.grow (h':=s₄.heap.push _) (n:=n) (Bd _)).val k {t',?_}}⟩
  rw[KBc.picked_eq];unfold cutB;rw[aN]
theorem WE.isint(G:BltF x (.builtin "isinstance"))(Gi:BltF y (.type "int"))(hs:F3 e)(hm:(x,.globalImplicit,ov)∈m)(hy:(y,.globalImplicit,ov')∈m)
  (h:WE F m H e λv H1=>K (.bool true) H1/\∃i,v=.int i):WE F m H (.Call (.Name x np) [e,.Name y yp] [] pos) K:=by
 intro D t P s ok;apply @A2 _ _ _ _ Y _ _;show Ar (G.load hm ok (Cd (P:=λa=>True) (by rw[Cj (.cons hs (.cons (λa a=>rfl) .nil))];rfl) (λh a=>{.machine,.inr (.inl rfl),.of_pure G.fv}) ?_));apply @A2 _ _ _ _ Y _ _;rw[hs];show Bz ?_;change A2 _ _ (do
  let v <- ch e D.env;let here <- (pure [v]:kh (List aL))
  return here++(<- cN here (kW (hH pos (eK [.Name y yp] D.env))))) _ _ _
 show A0 (h.seq ok λz s₁ v H₁ P1⟨k,i,e1⟩ok1=>?_);subst e1;obtain⟨a,e9⟩:=ok1.top;rw[e9];show A0 (A1 (A0 (A3 ?_)));apply @A2 _ _ _ _ Y _ _;change A2 _ _ (do
  let v <- ch (.Name y yp) D.env;let here <- (pure [v]:kh (List aL))
  return here++(<- cN here (pure []))) _ _ _
 show A0 (Gi.load hy ok1 (A0 (A1 (A0 (A3 (A1 (A1 (A1 {trivial,?_}))))))));show lf <| call_isinstance_yes (Tx:="int") (T:="int") rfl ⋯ (by rw[cD];kernel_rfl) (ok1.pop.bool k)
theorem W2.dz(h:K (.bool false) H):W2 F (bU .IsNot) ↑a ↑a H K:=by
 intro D m t P s x y ok;rw[ok.top];rw[ok.top2];change A2 _ _ (isSame ↑a ↑a >>= λb=>pure (Value.bool (!b))) _ _ _;rw[show isSame ↑a ↑a=pure true by unfold isSame;dsimp only;rw[if_pos (by simp)]];show A0 (A1 (A1 (ok.pop.pop.bool h)))
end
section
open PySem PySem.W PyProof.Rows PySem.Calls PySem.SeqAt
variable{F:Fx}{D:Dx}{m:Loc}{t:List Cl}{H:AH}{P:PH}{s:aW}{K:V->AH->Prop}{A:dX}
def same(v w:V):Bool:=@decide (v=w) (cU _)
theorem Es:same v w=true↔v=w:=by show @decide_eq_true_iff _ (cU _)
theorem O6{b:Bool}(h:b=true↔v=w):same v w=b:=j4.mpr (Es.trans h.symm)
theorem K7(i j:Int)(t u:qi):EqAt A s (.int i t) (.int j u) (same (.int i) (.int j)):=by
 simp only[O6 (b:=i==j) (beq_iff_eq.trans {congrArg V.int,λe=>by injection e})];show(p7 i j t u).at A s
theorem J7(a b:List UInt8)(t u:qi):EqAt A s (.bytes a.toArray t) (.bytes b.toArray u) (same (.bytes a) (.bytes b)):=λprog w E Q hq=>by
 rw[O6 (b:=a==b) (beq_iff_eq.trans {congrArg V.bytes,λe=>by injection e})]at hq;show dL (iY (λhab=>?_) (λhab=>?_))
 .have:a=b:=by have e:=eq_of_beq hab;injection e with e1 e2;show Array.toList_inj.mpr e1
  clear hab;subst this;rw[beq_self_eq_true]at hq;show ac (iJ (aB hq))
 .apply @aM _ _ _ Y _ _ _;show ac (eq_bytes (PySem.wpAny_truthy_bool hq))
inductive Sm:V->V->Prop
 |int{i j}:Sm (.int i) (.int j)
 |bytes{a b}:Sm (.bytes a) (.bytes b)
 |row{i a j b}:Sm (.tup [.int i,.bytes a]) (.tup [.int j,.bytes b])
theorem Sm.eqAt(q:Rel F.g H P s)(hu:A.units<9000)(h:Sm v w)(rv:VR P v x)(rw':VR P w y):EqAt A s x y (same v w):=by
 induction h using Sm.casesOn with
 |@int i j=>
  obtain⟨a,rfl⟩:=rv;obtain⟨a,rfl⟩:=rw';show K7 i j _ _
 |@bytes i j=>
  obtain⟨a,rfl⟩:=rv;obtain⟨a,rfl⟩:=rw';show J7 i j _ _
 |@row i b j c=>
  obtain⟨a1,rfl,e1⟩:=rv;obtain⟨a2,rfl,e2⟩:=rw';rcases bB (a1=a2) with e|e
  .subst e;rw[e1]at e2;rcases e2;rw[Es.mpr rfl];show EqAt.same _
  .obtain⟨vs,it,r⟩:=(q.prv a1 _ e1).2;obtain⟨ws,it2,r2⟩:=(q.prv a2 _ e2).2;obtain⟨a,a,rfl,⟨t1,rfl⟩,t2,rfl⟩:=r.two;obtain⟨a,a,rfl,⟨u1,rfl⟩,u2,rfl⟩:=r2.two;rw[O6 (b:=(cG (min 2 2)).all (λk=>if k=0 then same (.int i) (.int j) else same (.bytes b) (.bytes c))&&(2:Nat)==2) ?_]
   .show EqAt.of_refs e (RcAt.tuples (items:=#[.int i t1,.bytes b.toArray t2]) (items2:=#[.int j u1,.bytes c.toArray u2]) it it2 (ip hu (nle tt)) (λk h1 h2=>?_));rcases k with _|_|k
    .show K7 i j t1 u1
    .show J7 b c t2 u2
    .show absurd h1 (Nat.not_lt_of_le (gg 2 k))
   .change((same (.int i) (.int j)&&(same (.bytes b) (.bytes c)&&true))&&true)=true↔_;rw[pL,pL,kA,Es,Es];show{λz9=>z9.elim λh1 h2=>by injection h1 with h1;subst h1;clear z9;injection h2 with h2;subst h2;rfl,λh=>by clear q hu a1 e1 a2 e2 e t1 t2 it r u1 u2 it2 r2;apply Y;rcases h;show⟨rfl,rfl⟩}
theorem O7{xs ys:List V}(h:xs.length=ys.length):(cG xs.length).all (λj=>same (xs.getD j .none) (ys.getD j .none))=true↔xs=ys:=by
 rw[cT];constructor
 .intro k;show oo h λi h1 h2=>?_;have:=Es.mp (k i (fW.mpr h1));rwa [dI,dI,bE h1,bE h2]at this
 .clear h;rintro rfl i _;show Es.mpr rfl
def Sms(xs ys:List V):Prop:=∀(j:Nat)x y,xs[j]?=some x->ys[j]?=some y->Sm x y
theorem Sms.nil:Sms xs []:=λa a a a h=>absurd h.symm (aF _)
theorem VRs.at{xs:List V}(r:VRs P xs vs)(j:Nat)(h:j<vs.length):∃x,xs[j]?=some x/\VR P x vs[j]:=by
 apply Y;rcases r.get j with⟨a,e⟩|⟨x,y,e,e',rx⟩
 .rw[bE h]at e;contradiction
 .rw[bE h]at e';injection e' with e';subst e';show⟨x,e,rx⟩
theorem Qz(q:Rel F.g H P s)(hu:A.units<9000)(hS:Sms xs ys)(r:VRs P xs vs)(r2:VRs P ys ws):
  ∀j(h1:j<vs.toArray.size)(h2:j<ws.toArray.size),EqAt A s vs.toArray[j] ws.toArray[j] (same (xs.getD j .none) (ys.getD j .none)):=λj h1 h2=>by
 obtain⟨x,e1,r1⟩:=r.at j h1;obtain⟨y,e2,r3⟩:=r2.at j h2;simp only[dI,e1,e2];show Sm.eqAt q hu (hS j x y e1 e2) r1 r3
theorem AOk.u9(a:AOk n A):A.in1.units<9000:=by have:=a.units;simp only[Around.in1_units];show lin 0x480003e806eca88e882a00008ca0dda842 283466891234 tt this
theorem AOk.uc(a:AOk n A):A.units<cLine:=by have:=a.units;have:cLine=9900:=rfl;show lin 0x120000fa01bb2a23a30ac00026ac3744a1043 0xa49fff1ffe3 tt ‹_› this
theorem W2.eqL{o o':Option aK}{xs ys:List V}(as:AsL H v o xs)(bs:AsL H w o' ys)(hS:Sms xs ys)(h:∀b,(b=true↔xs=ys)->K (.bool b) H):W2 F (bU .Eq) v w H K:=by
 intro D m t P s x y ok;apply @A2 _ _ _ _ Y _ _;obtain⟨l,vs,e9,il,r⟩:=ok.asL as ok.top2;rw[e9];apply Y;obtain⟨l',ws,rfl,il',r'⟩:=ok.asL bs ok.top;have n1:=r.len;rcases bB (vs.toArray.size=ws.toArray.size) with e|e
 .show lf <| eq_listAt il.isList il'.isList e ok.d.a.uc (Qz ok.q ok.d.a.u9 hS r r') (ok.pop.pop.bool (h _ ?_));rw[aN,<- n1];show O7 (n1.trans (e.trans (r'.len).symm))
 .show lf <| eq_list_lengthsAt il.isList il'.isList (by simpa using e) ok.d.a.uc (ok.pop.pop.bool (h _ {(λe=>by show aR e),λe'=>absurd (n1.symm.trans ((congrArg _ e').trans (r'.len))) e}))
theorem W2.neL{o o':Option aK}{xs ys:List V}(as:AsL H v o xs)(bs:AsL H w o' ys)(hS:Sms xs ys)(h:∀b,(b=true↔xs≠ys)->K (.bool b) H):W2 F (bU .NotEq) v w H K:=by
 intro D m t P s x y ok;apply @A2 _ _ _ _ Y _ _;obtain⟨l,vs,e9,il,r⟩:=ok.asL as ok.top2;rw[e9];apply Y;obtain⟨l',ws,rfl,il',r'⟩:=ok.asL bs ok.top;have n1:=r.len;rcases bB (vs.toArray.size=ws.toArray.size) with e|e
 .show lf <| RcNeAt.lists il.isList il'.isList e ok.d.a.uc (Qz ok.q ok.d.a.u9 hS r r') _ _ _ _ (ok.pop.pop.bool (h _ ?_));simp only[aN,<- n1,gq,<- jE,O7 (n1.trans (e.trans (r'.len).symm))]
 .show lf <| RcNeAt.lists_lengths il.isList il'.isList (by simpa using e) ok.d.a.uc _ _ _ _ (ok.pop.pop.bool (h _ {λc e'=>e (n1.symm.trans ((congrArg _ e').trans (r'.len))),λc=>rfl}))
def eqI(i:Int)(y:aL):Bool:=@decide (∃t,y=.int i t) (cU _)
theorem R1(hS:∀x∈xs,∃j,x=.int j)(r:VRs P xs vs):(∀y,y∈vs.toArray->EqAt A s y (.int i tk) (eqI i y))/\(vs.toArray.any (eqI i)=true↔.int i∈xs):=by
 have g:∀y:aL,eqI i y=true↔∃t,y=.int i t:=λy=>by show @decide_eq_true_iff _ (cU _)
 induction r with
 |nil=>show{λa h=>(absurd (kj.mp h) aD),{λh=>by simp at h,λh=>absurd h aD}}
 |@cons v x xs vs h r ih=>
  obtain⟨ih1,ih2⟩:=ih λx hx=>hS x (.tail _ hx);obtain⟨j,rfl⟩:=hS _ (.head _);obtain⟨u,rfl⟩:=h;have ex:eqI i (.int j u)=true↔V.int i=.int j:=(g _).trans {λz9=>z9.elim λa e=>by clear z9;injection e with e;subst e;rfl,λe=>by clear tk g xs vs r ih ih1 ih2 hS;injection e with e;subst e;show⟨_,rfl⟩};show{λy hy=>?_,?_}
  .cases kj.mp hy with
   |head=>simp only[<- O6 (ex.trans eq_comm)];show K7 j i u tk
   |tail _ hy=>show ih1 y (kj.mpr hy)
  .rw[ou,pI,oU,ex,<- ou,ih2,aS]
theorem W2.inL{o:Option aK}{xs:List V}(as:AsL H v o xs)(hS:∀x∈xs,∃j,x=.int j)(h:∀b,(b=true↔.int i∈xs)->K (.bool b) H):W2 F (bU .In) (.int i) v H K:=by
 intro D m t P s x y ok;apply @A2 _ _ _ _ Y _ _;obtain⟨a,e9⟩:=ok.top2;rw[e9];obtain⟨l,vs,e9,il,r⟩:=ok.asL as ok.top;rw[e9];apply Y;obtain⟨h1,h2⟩:=R1 hS r;show lf <| in_listAt (eqI i) il.isList h1 (ok.pop.pop.bool (h _ h2))
theorem W2.notinL{o:Option aK}{xs:List V}(as:AsL H v o xs)(hS:∀x∈xs,∃j,x=.int j)(h:∀b,(b=true↔.int i∉xs)->K (.bool b) H):W2 F (bU .NotIn) (.int i) v H K:=by
 intro D m t P s x y ok;apply @A2 _ _ _ _ Y _ _;obtain⟨a,e9⟩:=ok.top2;rw[e9];obtain⟨l,vs,e9,il,r⟩:=ok.asL as ok.top;rw[e9];apply Y;obtain⟨h1,h2⟩:=R1 hS r;show lf <| notIn_listAt (eqI i) il.isList h1 (ok.pop.pop.bool (h _ (by simp only[gq,<- jE,h2])))
theorem eqd0{xs:List (Int×aL)}(r:VM P mm xs):(xs.length==([]:List (Int×aL)).length&&true)=mm.isEmpty/\(xs.length=([]:List (Int×aL)).length->xs=[]):=by
 induction r with
 |nil=>show{rfl,λb=>rfl}
 |cons=>show{rfl,λh=>absurd h (gk _)}
theorem W2.eqD0(as:AsI H v mm)(bs:AsI H w [])(h:K (.bool mm.isEmpty) H):W2 F (bU .Eq) v w H K:=by
 intro D m t P s x y ok;apply Y;obtain⟨l,vs,rfl,ns,D1,r⟩:=ok.asI as ok.top2;obtain⟨l',ws,rfl,ns',D',r'⟩:=ok.asI bs ok.top;rcases r';show lf <| keq_eq (r:=true) (by simpa using ns) (by simpa using ns') D1 D' ok.d.a.uc (λe=>by rw[(eqd0 r).2 e];show .nil) (ok.pop.pop.bool (by rw[(eqd0 r).1];show h))
theorem W2.neD0(as:AsI H v mm)(bs:AsI H w [])(h:K (.bool (!mm.isEmpty)) H):W2 F (bU .NotEq) v w H K:=by
 intro D m t P s x y ok;apply Y;obtain⟨l,vs,rfl,ns,D1,r⟩:=ok.asI as ok.top2;obtain⟨l',ws,rfl,ns',D',r'⟩:=ok.asI bs ok.top;rcases r';show lf <| keq_ne (r:=true) (by simpa using ns) (by simpa using ns') D1 D' ok.d.a.uc (λe=>by rw[(eqd0 r).2 e];show .nil) (ok.pop.pop.bool (by rw[(eqd0 r).1];show h))
end
section
section
open PySem.SeqAt MeetsSeq AutoSeq1
theorem K8(l:aK)(items:Array aL)(n:Nat)(x:aL)(e:aL->Bool)(j:Nat)(hj:j<items.size)(hit:e items[j]=true)(k:Nat)(hs1:items.size<=dM):
  ∀i:Nat,j-i=k->i<=j->(∀m(hm:m<items.size),i<=m->m<j->e items[m]=false)->Meets (dG.«list.remove.loop» {[↑l,x,cZ i],[]})
   (λA R s=>s.heap.get? l=some {cls:=.type "list",dict:=none,data:=.seq items n,slots:=#[]}/\(∀y,y∈items->EqAt A.in1 s y x (e y))/\R (.ok (.ret .none)) {s with heap:=s.heap.update l (nP λxs=>xs.eraseIdxIfInBounds j)}):=by
 induction k with
 |zero=>
  intro i hk hij hno prog w A R s h;show(let K3:=_;let K4:=_;(?_:@aM _ _ _ K3 K4 _ _));obtain⟨hp,g,d,tk,os⟩:=s;obtain⟨hl,he,h⟩:=h;have hij':i=j:=lin 0xbb0d629046b1043 12154055971 tt hk (eP hij);subst hij'
  wp_walk using jq hl
  have hi:items[((i:Nat):Int).toNat]?=some items[i]:=by simp[hj]
  rw[hi];show ac (he _ (nK hj) prog w _ _ ?_);rw[hit];have hz':(items.eraseIdxIfInBounds i).size<=dM+1:=aC (size_erased items _) (iB hs1)
  wp_walk using (wpAny_updateSeq hl rfl (hz:=hs1) (_hz':=hz')),jq hl
  simpa using h
 |succ k ih=>
  intro i hk hij hno prog w A R s h;obtain⟨hp,g,d,tk,os⟩:=s;obtain⟨hl,he,h⟩:=h;have hlt:i<items.size:=lin 708311178154051 9479 tt hj hij
  wp_walk using jq hl
  have hi:items[((i:Nat):Int).toNat]?=some items[i]:=by simp[hlt]
  rw[hi];show ac (he _ (nK hlt) prog w _ _ ?_);rw[hno i hlt (bC _) (lin 0x17520d629046a1044 369924 tt hk (eP hij))]
  wp_walk
  show⟨gD plain_remove_loop _,fM entry_remove_loop (by
   show ih (i+1) (by lia) (lin 0x2ea41ac5208d22a844 369924 tt hk (eP hij)) (λm hm h1 h2=>hno m hm (lin 624182235202 263 tt h1) h2) prog w A R _ ⟨hl,he,h⟩)⟩
theorem K9(l:aK)(items:Array aL)(n:Nat)(x:aL)(e:aL->Bool)(j:Nat)(hj:j<items.size)
  (hit:e items[j]=true) (hno:∀m(hm:m<items.size),m<j->e items[m]=false) (hs1:items.size<=dM) :
  Meets (dG.«list.remove» {[↑l,x],[]})
   (λA R s=>s.heap.get? l=some {cls:=.type "list",dict:=none,data:=.seq items n,slots:=#[]}/\(∀y,y∈items->EqAt A.in1 s y x (e y))/\R (.ok (.ret .none)) {s with heap:=s.heap.update l (nP λxs=>xs.eraseIdxIfInBounds j)}):=by
 apply @PySem.Meets _ Y;intro prog w A R s h;apply @aM _ _ _ _ Y _ _;obtain⟨hp,g,d,tk,os⟩:=s;have hl:=h.1;have he:=h.2.1;have h:=h.2.2
 wp_walk using jq hl
 show⟨gD plain_remove_loop _,fM entry_remove_loop (by
  show K8 l items n x e j hj hit _ hs1 0 rfl (bV _) (λm hm a h2=>hno m hm h2) prog w A R _ ⟨hl,he,h⟩)⟩
end
section
open PySem.SeqAt MeetsSeq AutoSeq1
theorem Ln:dE (.type "int") "__bytes__"=pure none:=by rw[bS];kernel_rfl
theorem Lo:dE (.type "int") "__index__"=pure (some (.builtin "int.__index__")):=by rw[bS];kernel_rfl
theorem Iy:dE (.type "bytes") "__bytes__"=pure (some (.builtin "bytes.__bytes__")):=by rw[bS];kernel_rfl
theorem N5:dE (.type "bytearray") "__bytes__"=pure none:=by rw[bS];kernel_rfl
theorem N6:dE (.type "bytearray") "__index__"=pure none:=by rw[bS];kernel_rfl
theorem Di:dE (.type "bytearray") "__buffer__"=pure (some (.builtin "bytearray.__buffer__")):=by rw[bS];kernel_rfl
theorem Fz:dE (.type "bytearray") "__release_buffer__"=pure (some (.builtin "bytearray.__release_buffer__")):=by rw[bS];kernel_rfl
section
variable{prog:hJ}{w:gE}{A:dX}{E:aL->aW->Prop}{s:aW}{Q:aL->aW->Prop}
theorem Ka(h0:0<=i)(h1:i<=2^20)(hq:Q (.bytes (oz i.toNat 0) s.toks) {s with toks:=s.toks+1}):
  dD (aQ prog w) A (.call (.builtin "bytes.__new__") {[.type "bytes",.int i u],[]}) (md Q E) s:=by
 show eM jN jO (bQ (jf _) ?_);have hsub:=kM;have hb:=jZ (.int i u);have l1:=Ln;have l2:=Lo;have hT:=pz s i u;have n1:¬ (!Builtin.Bytes.fitsIndex i)=true:=by unfold qB;simp;lia
 have n2:¬ i<0:=lin 836881985864 263 ⋯ h0;have n3:¬ i > 2^63-34:=lin 0xcd160d2cc22e07e23f48 263 tt h1;have n4:¬ qt i.toNat=true:=by rw[ph (by lia)];decide
 obtain⟨hp,g,d,tk,os⟩:=s;unfold dG.«bytes.__new__»
 wp_walk
 rw[if_neg n3]
 wp_walk
 have n5:¬ (oz i.toNat (0:UInt8)).size > dM:=by rw[Array.size_replicate,oD];lia
 rw[if_neg n5]
 wp_walk
 show hq
theorem Hz(hq:Q (.bytes b u) s):
  dD (aQ prog w) A (.call (.builtin "bytes.__new__") {[.type "bytes",.bytes b u],[]}) (md Q E) s:=by
 show eM jN jO (bQ (jf _) ?_);have hsub:=kM;have hb:=jZ (.bytes b u);have l1:=Iy;have hT:=cH s b u;obtain⟨hp,g,d,tk,os⟩:=s
 wp_walk
 show hq
theorem own_ba{Q:Bool->aW->Prop}(hT:s.TypeIs ↑a "bytearray")(h:Q true s):aM (aQ prog w) A (qu ↑a "__buffer__") Q E s:=by
 show ac (wpAny_specialOf hT Di ?_);have e1:("bytearray.__buffer__".endsWith ("."++"__buffer__"))=true:=by decide +kernel
 simp only[e1];show iT (T:="bytearray") (b:=true) hT (by rw[cD];kernel_rfl) h
theorem N7{Q:Bool->aW->Prop}(hT:s.TypeIs ↑a "bytearray")(h:Q false s):aM (aQ prog w) A (qy ↑a) Q E s:=by
 show ac (ac (wpAny_specialOf hT Fz ?_));have e1:("bytearray.__release_buffer__".endsWith ("."++"__release_buffer__"))=true:=by decide +kernel
 simp only[e1];show iT (T:="bytearray") (b:=true) hT (by rw[cD];kernel_rfl) (aB h)
theorem Dp{Q:Array UInt8->aW->Prop}(ha:s.heap.get? a=some {cls:=.type "bytearray",data:=.bytearray b 0})(h:Q b s):aM (aQ prog w) A (qx ↑a) Q E s:=by
 show ac (ac (fZ ha (aB (aB h))))
theorem R3{id:String}{Q:Option (Array UInt8)->aW->Prop}(ha:s.heap.get? a=some {cls:=.type "bytearray",data:=.bytearray b 0})(h:Q (some b) s):aM (aQ prog w) A (qE id ↑a full) Q E s:=by
 have hT:s.TypeIs ↑a "bytearray":=⟨_,ha,rfl⟩;show ac (wpAny_specialOf hT Di ?_);show ac (own_ba hT ?_);show iY (λx=>absurd x (dte tt)) λc=>?_;show ac (wpAny_specialOf hT Di ?_);show ac (N7 hT ?_);show iY (λx=>absurd x (dte tt)) λc=>?_;show ac (Dp ha (aB h))
theorem Lq(hz:b.size<=2^20)(ha:s.heap.get? a=some {cls:=.type "bytearray",data:=.bytearray b 0})(hq:Q (.bytes b s.toks) {s with toks:=s.toks+1}):
  dD (aQ prog w) A (.call (.builtin "bytes.__new__") {[.type "bytes",↑a],[]}) (md Q E) s:=by
 show eM jN jO (bQ (jf _) ?_);have hsub:=kM;have hb:=jZ ↑a;have l1:=N5;have l2:=N6;have l3:=Di;have l4:=Fz;have hT:s.TypeIs ↑a "bytearray":=⟨_,ha,rfl⟩;obtain⟨hp,g,d,tk,os⟩:=s
 wp_walk using R3 ha
 have n5:¬ b.size > dM:=by rw[oD];show lin 0x4e83050410000003741 263 tt hz
 rw[if_neg n5]
 wp_walk
 show hq
theorem Gj(hn:∀Q':aL->aW->Prop,(∀t k,Q' (.bytes b t) {s with toks:=k})->dD (aQ prog w) A.in1 (.call (.builtin "bytes.__new__") {[.type "bytes",x],[]}) (md Q' E) s)
  (hq:∀t k,Q (.bytes b t) {s with toks:=k}):aM (aQ prog w) A (call (.type "bytes") [x]) Q E s:=by
 show callType_codes (Q₁:=λobj s₁=>s₁.TypeIs obj "bytes"/\Q obj s₁) jx (PySem.F.bm_typeCall _) kQ (hn _ λt k=>{cH _ _ _,hq t k}) λobj s₁ h₁=>?_;show{h₁.1,kN obj _,pQ jx.init.lookup jx.made tt prog w A.in1 _ s₁ {h₁.1,rfl,h₁.2}}
end
end
theorem Vo:mroOf (.type "bytearray")=pure [.type "bytearray",.type "object"]:=by rw[mroOf_type];kernel_rfl
theorem Kb:dE (.type "bytearray") "__new__"=pure (some (.builtin "bytearray.__new__")):=by rw[bS];kernel_rfl
theorem Lr:mu "bytearray" "__init__" "bytearray.__init__":=
 .of (owner:="bytearray") (n:="__init__") (by rw[bS];kernel_rfl) (by decide +kernel) (by decide +kernel) (by decide +kernel)
  (by first|show .inl (by decide +kernel)|show .inr (by decide +kernel)) (by rw[cD];kernel_rfl)
theorem I2:pG "bytearray" "bytearray.__new__" "bytearray.__init__":=
 {by decide +kernel,by decide +kernel,⟨_,_,Vo⟩,madeBy_type Vo Kb (by decide +kernel),by decide +kernel,by rw[cD];kernel_rfl,Lr}
theorem Lu:n6 "bytearray" {[],[]}=pure ():=⋯
theorem Gu(a:aL):n6 "bytearray" {[a],[]}=pure ():=⋯
theorem N8:eA "bytearray.__new__" {[.type "bytearray"],[]}=pure ():=⋯
theorem I3(a:aL):eA "bytearray.__new__" {[.type "bytearray",a],[]}=pure ():=⋯
theorem Lv:fJ iF "bytearray.__new__"=some dG.«list.__new__»:=
 rj (id':="list.__new__") ⋯ (by decide +kernel) (by decide +kernel) ⋯
theorem Lw:plainId "bytearray.__new__"=true:=by decide +kernel
theorem Dz:fJ iF "bytearray.__init__"=some dG.«bytearray.__init__»:=fH rfl
set_option maxRecDepth 1000000 in
set_option maxHeartbeats 4000000 in
theorem Lx:("bytearray.__new__".splitOn ".__new__").headD ""="bytearray":=by simp +decide [String.splitOn,String.splitOnAux]
theorem N9:jT (.type "bytearray") (.type "bytearray")=pure true:=by rw[cD];kernel_rfl
section
variable{prog:hJ}{w:gE}{A:dX}{E:aL->aW->Prop}{s:aW}
theorem Fh(hc:eA "bytearray.__new__" {.type "bytearray"::rest,[]}=pure ())
  (h:Q₁ ↑s.heap.objs.size {s with heap:=s.heap.push {cls:=.type "bytearray",data:=.bytearray #[]}}) :
  Wb (aQ prog w) A (.call (.builtin "bytearray.__new__") {.type "bytearray"::rest,[]}) (md Q₁ E) s:=by
 show m4 ?_;apply @aM _ _ _ _ Y _ _;show ac (bQ hc (aB {gD Lw _,codeAny_builtin_stack Lv rfl λp st=>?_}));have hsub:=N9;obtain⟨hp,g,d,tk,os⟩:=s;simp only[(Lx)]
 wp_walk
 show h
theorem nc_of{id:String}(h:Nc (.builtin id a)=true):Fm.contains id=false:=by unfold Nc at h;simpa using h
theorem Na(h:Q false s):A2 (aQ prog w) A (kc v) Q E s:=by
 intro Γ p hΓ hN;have hall:∀x∈(Γ.code,p)::Γ.below,Nc x.1=true:=λx hx=>by
  rcases aS.mp hx with rfl|hx
  .show hN.1
  .show hN.2 x hx
 change Q _ s;rw[show(List.any ((Γ.code,p)::Γ.below) _)=false from iz.mpr λx hx=>?_]
 .show h
 .have hn:=hall x hx;clear hall hx h hΓ hN Q;obtain⟨c,q⟩:=x
  induction c using PySem.Code.casesOn with
  |builtin id args=>
   have hn:=nc_of hn;rw[Fm,List.contains_append,gG]at hn;obtain⟨d1,d2⟩:=hn;have ne:∀y∈["bytearray.__contains__","bytearray.__mod__","bytearray.__rmod__","_struct.pack_into.held","bytearray.find.held"],¬ id=y:=λy hy e=>by
    subst e;show bJ (d2.symm.trans (j5.mpr hy))
   delta mW
   change ¬ (dite (id=_) _ _:Bool)=true;simp only[dif_neg (ne _ (.head _)),dif_neg (ne _ (.tail _ (.head _))),dif_neg (ne _ (.tail _ (.tail _ (.head _)))),dif_neg (ne _ (.tail _ (.tail _ (.tail _ (.head _))))),dif_neg (ne _ (.tail _ (.tail _ (.tail _ (.tail _ (.head _))))))];obtain⟨pos,kw⟩:=args;clear hn;induction pos with
   |nil=>show bJ
   |cons v' t=>
    change ¬ (qw v' v&&j9.contains id)=true;simp only[d1,lj];show bJ
  |_=>show bJ
theorem Dn{Q Q₁:aL->aW->Prop}(ft:pG T newId initId)(hne:Fm.contains initId=false)
  (hct:n6 T {args,[]}=pure ()) (entryI:fJ iF initId=some Bi)
  (hnew:Wb (aQ prog w) A.in1 (.call (.builtin newId) {.type T::args,[]}) (md Q₁ E) s)
  (hnext:∀obj s₁,Q₁ obj s₁->s₁.TypeIs obj T/\lC initId ⟨obj::args,[]⟩ /\
   A2 (aQ prog w) A.in1.in1 (Bi ⟨obj::args,[]⟩) (λfin s'=>match fin with|.done f=>md (λr s₂=>r=.none/\Q obj s₂) E (.ok f) s'|.again c'=>False) (λe s'=>E e s') s₁) :
  A2 (aQ prog w) A (call (.type T) args) Q E s:=by
 apply Y;obtain⟨c,tl,hmro⟩:=ft.mro;show Cg (Ai rfl ?_);show A1 {ig _ (by decide +kernel),Ed (by decide +kernel) PySem.F.entry_type_call ?_};apply @A2 _ _ _ _ Y _ _;rw[Around.under_plain (weight_type_call_type T args []) rfl];apply @A2 _ _ _ _ _ Y _;unfold dG.«type.__call__»
 dsimp only
 rw[if_neg (ne_true_of_eq_false ft.notType),if_neg (ne_true_of_eq_false ft.canCreate),hct,hmro,ft.made];apply @A2 _ _ _ Y _ _ _;show A0 (A1 (A0 (A1 ?_)));show A0 (A1 (A0 (A1 (A0 (A3 (lf (iM (PySem.codeAny_mono hnew λr s₁ hr=>?_))))))))
 induction r using Except.casesOn with
 |error e=>show hr
 |ok fl=>
  apply Y;induction fl using PySem.Flow.casesOn with
  |ret obj=>
   obtain⟨hT,hok,hsi⟩:=hnext _ _ hr;show A0 (lf (iT hT ft.sub ?_));show A0 (A3 ?_);apply @A2 _ _ _ _ Y _ _;show A0 (lf (wpAny_specialOf hT ft.init.lookup ?_))
   dsimp only
   rw[ft.init.bind obj];show A3 (A0 (A1 (A0 (Cg ?_))));show(let K2:=_;let K3:=_;(?_:@Ae _ _ K2 K3 _));show Bx hne ft.init.plain entryI (lf (ft.init.check _ _ _ _ _ _ _ _ hT hok ?_));show(let K3:=_;let K4:=_;(?_:@A2 _ _ _ K3 K4 _ _));show A4 hsi (λfin s₂ h₂=>?_) λa a x=>x
   induction fin using PySem.Fin.casesOn with
   |again c'=>show h₂.elim
   |done f=>
    induction f using PySem.Flow.casesOn with
    |ret r=>
     obtain⟨rfl,hq⟩:=h₂;show A1 (A1 hq)
    |_=>show h₂.elim
  |_=>show hr.elim
theorem Ty:jz "bytearray.__init__" "bytearray" ["source","encoding","errors"] [] []=pure [none,none,none]:=rfl
theorem Tz(v:aL):jz "bytearray.__init__" "bytearray" ["source","encoding","errors"] [v] []=pure [some v,none,none]:=rfl
def bao(b:Array UInt8):jh:={cls:=.type "bytearray",data:=.bytearray b 0}
theorem G0(ha:s.heap.get? a=some (bao b))(hz:(f b).size<=dM)
  (h:∀h',cP a s.heap h'->h'.get? a=some (bao (f b))->Q () {s with heap:=h'}):kAny (aQ prog w) A (kT ↑a f) Q E s:=by
 show ac (fZ ha ?_);show ac (wpAny_update ha ?_);have e2:=cM (Obj.mapBytearray f) ha rfl;show lm e2 ?_ (h _ (cJ ..) e2);change(if (f b).size > dM then some "bytearray:memory" else none)=none;rw[if_neg (by lia)]
noncomputable abbrev FinW (Q:aL->aW->Prop) (E:aL->aW->Prop):Fin->aW->Prop:=λfin s'=>match fin with|.done f=>md Q E (.ok f) s'|.again c'=>False
theorem We(ha:s.heap.get? a=some (bao b))(h:Q false s):
  A2 (aQ prog w) A (kc ↑a <||> do
   let __do_lift <- qC ↑a
   pure (decide (__do_lift > 0))) Q E s:=by
 show A0 (Na ?_);show A0 (A0 (lf (fZ ha (A1 (A1 h)))))
theorem U0(ha:s.heap.get? a=some (bao #[]))(hq:∀h',cP a s.heap h'->h'.get? a=some (bao #[])->Q .none {s with heap:=h'}):
  A2 (aQ prog w) A (dG.«bytearray.__init__» {[↑a],[]}) (FinW Q E) (λe s'=>E e s') s:=by
 show A0 (lf (N7 (⟨_,ha,rfl⟩) ?_));rw[Ty];apply @A2 _ _ _ Y _ _ _;show A0 (A1 ?_)
 dsimp only
 show A0 (A1 (A0 (A1 (A0 (We ha ?_)))));show A0 (lf (G0 ha (bV _) λh' x y=>A1 (hq h' x y)))
theorem O8{a:aK}{b:Array UInt8}(ha:s.heap.get? a=some (bao #[]))(hz:b.size<=2^20)(hq:∀h',cP a s.heap h'->h'.get? a=some (bao b)->Q .none {s with heap:=h'}):
  A2 (aQ prog w) A (dG.«bytearray.__init__» {[↑a,.bytes b t],[]}) (FinW Q E) (λe s'=>E e s') s:=by
 have hT:s.TypeIs ↑a "bytearray":=⟨_,ha,rfl⟩;show A0 (lf (N7 hT ?_));rw[if_neg '#',Tz];apply @A2 _ _ _ Y _ _ _;show A0 (A1 ?_);show A0 (A1 (A0 (A1 (A0 (We ha ?_)))));show A0 (lf (G0 ha (bV _) λh' x y=>lf ?_));have l1:dE (.type "bytes") "__index__"=pure none:=by rw[bS,nX];kernel_rfl
 show ac (bQ (a:=none) rfl ?_);show ac (aB (ac (dS (T:="bytes") (cH _ _ _) l1 ?_)));show ac (bQ lT ?_);have sz:=szl;show ac (iJ (ac (G0 y (by lia) λh2 x2 y2=>aB (hq h2 (x.trans x2) y2))))
end
theorem I4:mu "bytearray" "__len__" "bytearray.__len__":=
 .of (owner:="bytearray") (n:="__len__") (by rw[bS];kernel_rfl) (by decide +kernel) (by decide +kernel) (by decide +kernel)
  (by first|show .inl (by decide +kernel)|show .inr (by decide +kernel)) (by rw[cD];kernel_rfl)
theorem Lz:fJ iF "bytearray.__len__"=some dG.«bytearray.__len__»:=fH rfl
theorem Nb(a:aL):lC "bytearray.__len__" {[a],[]}:=⋯
theorem F5:mu "bytearray" "extend" "bytearray.extend":=
 .of (owner:="bytearray") (n:="extend") (by rw[bS];kernel_rfl) (by decide +kernel) (by decide +kernel) (by decide +kernel)
  (by first|show .inl (by decide +kernel)|show .inr (by decide +kernel)) (by rw[cD];kernel_rfl)
theorem I5:fJ iF "bytearray.extend"=some dG.«bytearray.extend»:=fH rfl
theorem Iz(a b:aL):lC "bytearray.extend" {[a,b],[]}:=⋯
theorem I6:mu "bytearray" "__setitem__" "bytearray.__setitem__":=
 .of (owner:="bytearray") (n:="__setitem__") (by rw[bS];kernel_rfl) (by decide +kernel) (by decide +kernel) (by decide +kernel)
  (by first|show .inl (by decide +kernel)|show .inr (by decide +kernel)) (by rw[cD];kernel_rfl)
theorem M1:fJ iF "bytearray.__setitem__"=some dG.«bytearray.__setitem__»:=fH rfl
theorem Nd(a b c:aL):lC "bytearray.__setitem__" {[a,b,c],[]}:=⋯
theorem U1:PlainAttrs "bytearray":=
 {{"bytearray.__getattribute__",by rw[bS];kernel_rfl,by decide +kernel},by rw[bS];kernel_rfl}
section
variable{prog:hJ}{w:gE}{A:dX}{E:aL->aW->Prop}{s:aW}
theorem len_ba(ha:s.heap.get? a=some (bao b))(hz:b.size<=2^40)(h:∀t k,Q (.int b.size t) {s with toks:=k}):kAny (aQ prog w) A (call (.builtin "len") [↑a]) Q E s:=by
 show Calls.call_function_entry kind_len plain_len entry_len (args_len1 _) ?_;apply @aM _ _ _ _ Y _ _;show ac (m:=oneArg "len" _) (aB ?_);show ac (m:=callSpecial? ↑a "__len__") (gM (name:="__len__") (⟨_,ha,rfl⟩) I4 (hW I4 (⟨_,ha,rfl⟩) Lz ?_ (Nb _)));apply @aM _ _ _ _ Y _ _;show ac (bQ (a:=(.ref a,[])) rfl ?_);show ac (Dp ha ?_);show ac (oA (aB {_,rfl,?_}));show ac (dL (aB ?_));show ac (oB ?_);rw[if_neg (by show lin 1102487617 225 tt)];rw[if_neg (by show lin 0x121408fd0c194087e23f41 263 tt hz)];show ac (oA (aB {_,rfl,h _ _}))
theorem R4(ha:s.heap.get? a=some (bao b))(h:Q () s):A2 (aQ prog w) A (qD ↑a) Q E s:=by
 show A0 (We ha ?_);show A1 h
theorem R5{a:aK}(ha:s.heap.get? a=some (bao b))(hz:b.size+c.size<=2^20)(hq:∀h',cP a s.heap h'->h'.get? a=some (bao (b++c))->Q .none {s with heap:=h'}):
  A2 (aQ prog w) A (dG.«bytearray.extend» {[↑a,.bytes c t],[]}) (FinW Q E) (λe s'=>E e s') s:=by
 show A0 (Cc (a:=(.ref a,.bytes c t)) rfl ?_);show A0 (lf (dS (T:="bytes") (cH _ _ _) KBy.look_buffer ?_));show A0 (Cn (A0 (lf (Dp ha ?_))));have e:fL "bytearray.extend" (.bytes c t) 0=pure (some (c,none)):=by
  unfold fL;rw[pJ];rw[show((0:Int)==jy)=false from by decide,lT];rfl
 unfold gx;rw[e];show A0 (A0 (Du (A1 (A1 ?_))))
 dsimp only
 rw[if_pos (by rfl)];have go:A2 (aQ prog w) A (do kT ↑a (·++c);ret .none) (FinW Q E) (λe s'=>E e s') s:=
  A0 (lf (G0 ha (by rw[Array.size_append];show aC ‹_› (nle rfl)) λh' x y=>A1 (hq h' x y)))
 show Hs (λd=>A0 (R4 ha go)) λd=>go
theorem R6{id:String}{name:bY}{B:dG}{a:aK}{b:Array UInt8}(hne:Fm.contains id=false)(slot:mu "bytearray" name id)(ha:s.heap.get? a=some (bao b))(entry:fJ iF id=some B)(args:lC id {.ref a::rest,[]})
  (h:A2 (aQ prog w) A.in1 (B {.ref a::rest,[]}) (FinW Q E) (λe s'=>E e s') s):A2 (aQ prog w) A (call (.builtin id) (.ref a::rest)) Q E s:=by
 show Cg (Bx hne slot.plain entry (lf (slot.check _ _ _ _ _ _ _ _ (⟨_,ha,rfl⟩) args (A4 h (λfin s₂ h₂=>?_) λc c x=>x))))
 induction fin using PySem.Fin.casesOn with
 |again c'=>show h₂.elim
 |done f=>show h₂
end
section
variable{prog:hJ}{w:gE}{A:dX}{E:aL->aW->Prop}{s:aW}
theorem J8(hs:s.heap.IsSliceOf sl .none .none .none)(h:Q (.none,.none,.none) s):kAny (aQ prog w) A (qv ↑sl) Q E s:=by
 apply Y;obtain⟨o,ho,hc,hd⟩:=hs;show ac (wpAny_field (x:=.none) ho hd rfl ?_)
 kby_none
 show PySem.wpAny_ite (KBy.ite_no (show ¬ ((.none==cZ 0)=true) from bJ) ?_);show ac (wpAny_field (x:=.none) ho hd rfl ?_)
 kby_none
 show ac (wpAny_field (x:=.none) ho hd rfl ?_)
 kby_none
 show aB h
theorem Kc(hz:b.size<=2^20)(h:∀c h',(∀x o,s.heap.get? x=some o->h'.get? x=some o)->s.heap.get? c=none->h'.get? c=some (bao b)->Q ↑c {s with heap:=h'}):
  A2 (aQ prog w) A (call (.type "bytearray") [.bytes b t]) Q E s:=by
 show Dn (Q₁:=λobj s₁=>obj=.ref s.heap.objs.size/\s₁ = {s with heap:=s.heap.push (bao #[])}) I2 (by decide +kernel) (Gu _) Dz (Fh (I3 _) ⟨rfl,rfl⟩) λobj s₁ h₁=>?_;obtain⟨rfl,rfl⟩:=h₁;have e:(s.heap.push (bao #[])).get? s.heap.objs.size=some (bao #[]):=bI _ rfl;show{⟨_,e,rfl⟩,⋯,O8 e hz λh' x y=>{rfl,h _ _ (λc o e'=>(x.2 c (by rintro rfl;rw[(Ak (bC _))]at e';show nomatch e')).trans (bA _ e')) (Ak (bC _)) y}}
theorem R7(ha:s.heap.get? a=some (bao b))(hs:s.heap.IsSliceOf sl .none .none .none)(hl:c.size=b.size)(hz:c.size<=2^20)
  (hq:∀h1 h2,(∀x o,s.heap.get? x=some o->h1.get? x=some o)->cP a h1 h2->h2.get? a=some (bao c)->Q .none {s with heap:=h2}) :
  A2 (aQ prog w) A (dG.«bytearray.__setitem__» {[↑a,↑sl,.bytes c t],[]}) (FinW Q E) (λe s'=>E e s') s:=by
 have sz:=szl;obtain⟨os,hos,hcs,hds⟩:=id hs;have hTs:s.TypeIs ↑sl "slice":=⟨os,hos,hcs⟩;unfold dG.«bytearray.__setitem__»;show A0 (lf ?_);apply @kAny _ _ _ _ Y _ _;show ac (dS hTs slice_no_index ?_);apply @aM _ _ _ Y _ _ _;show aB ?_;show A0 (lf (ia hTs ?_));apply @A2 _ _ _ Y _ _ _;show A0 (lf (J8 hs ?_));show A0 ?_;show lf (iT (T:="bytes") (b:=false) (cH _ _ _) (by rw[cD];kernel_rfl) ?_);have cx:kG (.bytes c t) (.type "complex")=pure false:=by
  change jT (.type "bytes") (.type "complex")=_;rw[cD];kernel_rfl
 show A0 (Cc (a:=false) rfl ?_);show A0 (Cc (a:=none) rfl ?_);show A0 (Cn (A0 (Kc hz λcp h1 k1 n1 e1=>?_)));have ha1:=k1 _ _ ha;show A0 (A3 (lf (J8 {os,k1 _ _ hos,hcs,hds} ?_)));show A0 (lf (Dp e1 ?_));show A0 (lf (Dp ha1 ?_));have sb:gN none none none b.size=(0,(b.size:Int),1):=by simp[gN]
 have se:sliceIndices .none .none .none b.size=pure (0,(b.size:Int),1):=by rw[<- sb];show sliceIndices_raw none none none b.size (by simp)
 rw[se];show A0 (A1 ?_);show A0 (Cn ?_);have mx:max (0:Int) (b.size:Int)=b.size:=by lia
 rw[mx,if_neg (by rw[hl];simp)];show A0 (lf (G0 ha1 ?_ λh2 x2 y2=>A1 (hq h1 h2 k1 x2 ?_)))
 .simp;lia
 .simpa using y2
theorem Pm(ha:s.heap.get? a=some (bao b))
  (h:A2 (aQ prog w) A (call (.builtin "bytearray.__setitem__") [↑a,i,v]) (λc s'=>Q () s') E s):A2 (aQ prog w) A (gF ↑a i v) Q E s:=by
 show A3 ?_;show A0 (lf (PySem.wpAny_sequenceKey (⟨_,ha,rfl⟩) rfl ?_));show A0 (A0 (lf (dS (⟨_,ha,rfl⟩) I6.lookup ?_)));show(let K3:=_;let K4:=_;(?_:@A2 _ _ _ K3 K4 _ _));show A3 (A0 (A1 (A0 (A4 h (λv s' h'=>A1 (A1 h')) λc c x=>x))))
end
section
variable{prog:hJ}{w:gE}{A:dX}{E:aL->aW->Prop}{s:aW}
theorem Wf{o:jh}
  (hx:s.heap.get? a=some o) (hc:o.cls=.type "list") (hdat:o.data=.seq xs k) (hd:o.dict=none) (hA:A.handled=none)
  (h:∀h' tk,(∀b o,s.heap.get? b=some o->h'.get? b=some o)->Q none {s with heap:=h',toks:=tk}) :
  kAny (aQ prog w) A (getAttr? ↑a "keys") Q E s:=by
 obtain⟨c,dct,dat,sl⟩:=o;simp only at hc hdat hd;subst hc hdat hd;obtain⟨hp,g,d,tk,os⟩:=s;have hT:∀tk',(⟨hp,g,d,tk',os⟩:aW).TypeIs ↑a "list":=λ_=>⟨_,hx,rfl⟩;have f1:=sub_AttributeError;have f3:=gL.lookup;have f4:=gL.bind ↑a;have f5:=am_list_getattr_none;have hmiss:dE (.type "list") "keys"=pure none:=by rw[bS,nX];kernel_rfl
 unfold getAttr? getAttrBy? getAttrBy
 repeat (any_goals (first|assumption|show hT _|((with_reducible show aM _ _ (call (.builtin "list.__getattribute__") _ _) _ _ _);show call_meets gL (hT _) am_entry_list_getattribute (PySem.F.args_list_getattribute_2 _ _) (meets_getattribute_miss_list a xs k sl "keys" _ hmiss (by decide +kernel) (by rw[szl];decide)) {hx,hA,λh' tk' e hx'=>?_})|wp_step))
 obtain⟨t',u',he⟩:=hx'.there;change aM _ _ (pC _ _ _ _ _ _ _) _ _ _;unfold pC
 repeat (any_goals (first|assumption|wp_step))
 show h _ _ hx'.of.keeps
theorem M3:fJ iF "dict.update.loop"=some dG.«dict.update.loop»:=fH rfl
theorem M4:plainId "dict.update.loop"=true:=by decide +kernel
def fst_(ps:List (Int×aL)):List (Int×aL):=ps.foldl (λd p=>eJ d p.1 p.2) []
theorem Pn(d:List (Int×aL))(k:Int)(v:aL):(eJ d k v).length<=d.length+1:=by
 unfold eJ;split<;>simp
theorem Wg(ps:List (Int×aL)):(fst_ ps).length<=ps.length:=by
 have:∀(ps d:List (Int×aL)),(ps.foldl (λd p=>eJ d p.1 p.2) d).length<=d.length+ps.length:=by
  intro ps
  induction ps with
  |nil=>simp
  |cons p ps ih=>intro d;have:=ih (eJ d p.1 p.2);have:=Pn d p.1 p.2;simp only[mo,cK];show lin 0x990c814d4444caa31044 9479 tt ‹_› this
 have:=this ps [];unfold fst_;simpa using this
theorem U4{ps:List (Int×aL)}(h:ps[i]?=some p):fst_ (ps.take (i+1))=eJ (fst_ (ps.take i)) p.1 p.2:=by
 unfold fst_;simp only[cE,h];simp
theorem U5{h₀:j3}{l I d:aK}{vs:List aL}{ps:List (Int×aL)}(hh:A.handled=none)(hl:h₀.IsList l vs.toArray)(hlen:vs.length=ps.length)
  (hp:∀(j:Nat)(v:aL)(p:Int×aL),vs[j]?=some v->ps[j]?=some p->∃t k,v=.ref t/\rA h₀ t #[.int p.1 k,p.2]) (nI:h₀.get? I=none) (nd:h₀.get? d=none) (hId:I≠d) (hz:ps.length<=2^20) :
  ∀(k i:Nat)(s:aW),ps.length-i=k->i<=ps.length->(∀b o,h₀.get? b=some o->s.heap.get? b=some o)->s.heap.IsListIter I l i->s.heap.DictOf (gH prog w) d (fst_ (ps.take i)) ->
   (∀h' tk,(∀b o,h₀.get? b=some o->h'.get? b=some o)->h'.DictOf (gH prog w) d (fst_ ps)->R (.ok (.ret .none)) {s with heap:=h',toks:=tk}) ->
   Wb (aQ prog w) A (.builtin "dict.update.loop" {[↑d,↑I,cZ i,.none],[]}) R s:=by
 have sz:=szl;intro k
 induction k with
 |zero=>
  intro i s hk hle kp hit hd hR;have hin:i=ps.length:=lin 0xbb0d629046b1043 12154055971 tt hk (eP hle);subst hin;have hl':s.heap.IsList l vs.toArray:=let ⟨o,ho,x⟩:=hl;{o,kp _ _ ho,x};show fM M3 ?_;show ac (wpAny_pyNext_list_end hh hit hl' (by simp[hlen]) λh' he=>?_);rw[lM]at hd;show ac (bQ (a:=()) (by rfl) (aB ?_));show hR h' s.toks (λb o e=>he b o (by rintro rfl;rw[nI]at e;show nomatch e) (kp b o e)) (hd.at λo e=>he _ _ (fQ hId) e)
 |succ k ih=>
  intro i s hk hle kp hit hd hR;apply Y;have hlt:i<ps.length:=lin 0x17520d629046a1044 369924 tt hk (eP hle);have hl':s.heap.IsList l vs.toArray:=let ⟨o,ho,x⟩:=hl;{o,kp _ _ ho,x};obtain⟨x,hx⟩:∃x,vs[i]?=some x:={vs[i]'(by lia),bE (by lia)};obtain⟨p,hpi⟩:∃p,ps[i]?=some p:={ps[i],bE hlt};obtain⟨t,tk,rfl,it⟩:=hp i x p hx hpi;show fM M3 ?_;show(let K2:=_;let K3:=_;let K4:=_;(?_:@aM _ _ K2 K3 K4 _ _));show ac (wpAny_pyNext_list_item (x:=.ref t) hit hl' (by simpa using hx) λh' hit' hs=>?_);apply @aM _ _ _ Y _ _ _;have k1:∀b o,h₀.get? b=some o->h'.get? b=some o:=λb o e=>(hs.2 b (by rintro rfl;rw[nI]at e;show nomatch e)).trans (kp b o e);obtain⟨ot,hot,hct,nt,hdt⟩:=it;have hT:oL {s with heap:=h'} ↑t "tuple":={_,k1 _ _ hot,hct};show ac (dL (ac (wpAny_tryCatch ?_)));show ac (ia hT ?_);show ac (jC (k1 _ _ hot) hdt (aB ?_));show dL ?_;unfold dictSet
  try with_reducible show dL ?_
  show ac (wpAny_pyHash_int ?_);have hd':h'.DictOf (gH prog w) d (fst_ (ps.take i)):=hd.at λo e=>(hs.2 _ (fQ hId)).trans e;have ln:(fst_ (ps.take i)).length<=dM:=by have:=Wg (ps.take i);rw[dT]at this;lia
  show wpAny_dictSetHashed_pairs (knd:=gH prog w) (k:=p.1) (show iq p.1 (.int p.1 tk)=true by simp[iq]) hd' (λh2 hd2 s2=>?_) ln;rw[<- U4 hpi]at hd2;show aB {gD M4 _,?_};show ih (i+1) _ (by lia) hlt (λb o e=>(s2.2 b (by rintro rfl;rw[nd]at e;show nomatch e)).trans (k1 b o e)) (hit'.extBut s2.extBut hId) hd2 hR
theorem I7{vs:List aL}(hh:A.handled=none)(hl:s.heap.PlainList l vs.toArray)(hlen:vs.length=ps.length)
  (hp:∀(j:Nat)(v:aL)(p:Int×aL),vs[j]?=some v->ps[j]?=some p->∃t k,v=.ref t/\rA s.heap t #[.int p.1 k,p.2]) (hz:ps.length<=2^20)
  (h:∀h' tk,(∀b o,s.heap.get? b=some o->h'.get? b=some o)->h'.DictOf (gH prog w) s.heap.objs.size (fst_ ps)->Q ↑s.heap.objs.size {s with heap:=h',toks:=tk}) :
  kAny (aQ prog w) A (call (.type "dict") [↑l]) Q E s:=by
 show PySem.callType_codes (Q₁:=λobj s₁=>obj=.ref s.heap.objs.size/\s₁ = {s with heap:=s.heap.push {cls:=.type "dict",data:=.dict #[]}}) PySem.F.kt_called_dict (PySem.F.kt_typeCall_dict_1 _) PySem.F.entry_dict_init (kt_code_dict_new _ ⟨rfl,rfl⟩) ?_;rintro obj s₁ ⟨rfl,rfl⟩;obtain⟨nl,hol⟩:=id hl;have hnew:(s.heap.push {cls:=.type "dict",data:=.dict #[]}).DictOf (gH prog w) s.heap.objs.size []:=fX s.heap;have hol':(s.heap.push {cls:=.type "dict",data:=.dict #[]}).get? l=some _:=bA _ hol;have hTl:oL {s with heap:=s.heap.push {cls:=.type "dict",data:=.dict #[]}} ↑l "list":=⟨_,hol',rfl⟩;show{hnew.typeIs,PySem.F.args_dict_init_2 _ _,?_};apply @aM _ _ _ _ Y _ _;unfold dG.«dict.__init__»;show(let K3:=_;let K5:=_;let K6:=_;(?_:@aM _ _ _ K3 _ K5 K6));show ac ?_;apply @aM _ _ _ _ Y _ _;show ac (wpAny_notOrdered_dict hnew.typeIs ?_);show aB ?_;change kAny _ _ (qZ "dict.__init__" s.heap.objs.size ↑l [] .none) _ _ _;show ac (ia hTl ?_);show ac (Wf hol' rfl rfl rfl hh λh1 t1 k1=>?_);have k0:=λb o e=>k1 b o (bA _ e);show ac (iJ (ac (wpAny_pyIter_list ({_,k0 _ _ hol,rfl,_,rfl}) (aB {gD M4 _,?_}))));show(let K2:=_;let K3:=_;let K4:=_;(?_:@dD _ _ K2 K3 K4));have sl:s.heap.objs.size<h1.objs.size:=by apply Y;obtain⟨o,e,_⟩:=Heap.dictOf_iff.mp hnew;show gb (k1 _ _ e)
 show U5 (A:=A.in1) (h₀:=s.heap) (l:=l) (vs:=vs) (ps:=ps) (hh) ⟨_,hol,rfl,_,rfl⟩ hlen hp (Ak (mC sl)) (Ak (bC _)) (mA sl) hz ps.length 0 _ rfl (bV _) ?_ ?_ ?_ ?_
 .show λb o e=>bA _ (k0 b o e)
 .show{_,bI _ rfl,rfl,rfl}
 .show(hnew.at λo e=>k1 _ _ e).push _
 .show λh' tk k2 d2=>{rfl,h h' tk k2 d2}
end
theorem Cf:mu "bytes" "join" "bytes.join":=
 .of (owner:="bytes") (n:="join") (by rw[bS];kernel_rfl) (by decide +kernel) (by decide +kernel) (by decide +kernel)
  (by first|show .inl (by decide +kernel)|show .inr (by decide +kernel)) (by rw[cD];kernel_rfl)
theorem M5:fJ iF "bytes.join"=some dG.«bytes.join»:=fH rfl
theorem Nf(a b:aL):lC "bytes.join" {[a,b],[]}:=⋯
theorem Eh:gJ (.builtin "bytes.join")=pure (.type "method_descriptor"):=⋯
section
variable{prog:hJ}{w:gE}{A:dX}{E:aL->aW->Prop}{s:aW}
theorem Po{M:mF}{β:Type}{f:Nat->β->kh (ForInStep β)}(J:Nat->β){Q:β->aW->Prop}(k i:Nat)(h:∀j,i<=j->j<i+k->∀Q':ForInStep β->aW->Prop,Q' (.yield (J (j+1))) s->kAny M A (f j (J j)) Q' E s)(hq:Q (J (i+k)) s):kAny M A (forIn (List.range' i k 1) (J i) f) Q E s:=by
 induction k generalizing i with
 |zero=>show aB hq
 |succ k ih=>
  rw[List.range'_succ,jd];show ac (h i (bC _) (lin 22726969410 226 tt) _ ?_);show ih (i+1) (λj h1 h2=>h j (lin 624182235202 263 tt h1) (lin 0x1521d44154aa31043 263 tt h2)) (by rw[show i+1+k=i+(k+1) by show lin 815086113564738 7175 tt];show hq)
theorem Pp{id:String}:fL id (.bytes c t) 0=pure (some (c,none)):=by
 unfold fL;rw[pJ];rw[show((0:Int)==jy)=false from by decide,lT];rfl
theorem Ng{id:String}(h:Q (some (c,none)) s):kAny (aQ prog w) A (gx id (.bytes c t) 0) Q E s:=by
 unfold gx;rw[Pp];show ac (hO (aB (aB h)))
theorem Gv:∀(taken:List (aL×Option aL))(keep:List aL){Q:Unit->aW->Prop},(∀p∈taken,p.2=none)->Q () s->kAny (aQ prog w) A (qA taken keep) Q E s
 |[],keep,Q,hn,h=>aB h
 |(x,o)::r,keep,Q,hn,h=>by
  obtain rfl:o=none:=hn _ (.head _);show ac (oB (Gv r keep (λp hp=>hn p (.tail _ hp)) h))
def bv(p:Array UInt8×qi):aL:=.bytes p.1 p.2
theorem any_no(bs:List (Array UInt8×qi)):((bs.map λp=>(bv p,(none:Option aL))).any λx=>x.1.onHeap)=false:=by
 rw[iz];intro x hx;obtain⟨p,a,rfl⟩:=aE.mp hx;show bJ
theorem R8{bs:List (Array UInt8×qi)}{j:Nat}(hj:j<bs.length):(((bs.take j).map (·.1)).toArray.push bs[j].1,(bs.take j).map (λp=>(bv p,(none:Option aL)))++[(bv bs[j],none)])=(((bs.take (j+1)).map (·.1)).toArray,(bs.take (j+1)).map λp=>(bv p,none)):=by
 simp only[cE,bE hj];simp only[oC,aJ,fA,map_nil,jV]
theorem U6{bs:List (Array UInt8×qi)}(hj:j<bs.length):(bs.map bv).toArray.getD j .none=bv bs[j]:=by simp[hj]
theorem R9(bs:List (Array UInt8)):qz #[] bs=(bs.map (·.toList)).flatten.toArray:=by
 have:∀(bs:List (Array UInt8))(k:Nat)(out:Array UInt8),((bs.zipIdx k).foldl (λout(x:Array UInt8×Nat)=>(if x.2 > 0 then out++(#[]:Array UInt8) else out)++x.1) out)=out++(bs.map (·.toList)).flatten.toArray:=by
  intro bs
  induction bs with
  |nil=>intro k out;simp
  |cons b bs ih=>
   intro k out;rw[oh,mo,ih,Array.append_empty,ite_self];rw[Array.append_assoc];congr 1;simp
 have h:=this bs 0 #[];simp only[nj]at h;show h
theorem Ra(bs:List (Array UInt8)):(bs.toArray.foldl (λx1 x2=>x1+x2.size) 0)=(bs.map (·.toList)).flatten.length:=by
 have:∀(bs:List (Array UInt8))(k:Nat),bs.foldl (λx1 x2=>x1+x2.size) k=k+(bs.map (·.toList)).flatten.length:=by
  intro bs
  induction bs with
  |nil=>intro k;simp
  |cons b bs ih=>intro k;simp[ih,iP]
 rw[List.foldl_toArray]
 simpa using this bs 0
theorem Rb{bs:List (Array UInt8×qi)}:(bs.map (·.1)).map (·.toList)=bs.map (·.1.toList):=by rw[dB];rfl
theorem Wh{bs:List (Array UInt8×qi)}(h2:2<=bs.length){t0:qi}{Q:aL->aW->Prop}(hl:s.heap.IsList l (bs.map bv).toArray)(hz:((bs.map (·.1.toList)).flatten).length<=2^20)
  (h:∀t k,Q (.bytes (bs.map (·.1.toList)).flatten.toArray t) {s with toks:=k}) :
  kAny (aQ prog w) A (dG.«bytes.join» {[.bytes #[] t0,↑l],[]}) (FinW Q E) (λe s'=>E e s') s:=by
 apply Y;obtain⟨o,ho,hc,nl,hd⟩:=id hl;have hT:s.TypeIs ↑l "list":=⟨o,ho,hc⟩;show ac (bQ (a:=(.bytes #[] t0,.ref l)) rfl ?_);show ac ?_;apply @aM _ _ _ _ Y _ _;show ac (ia hT ?_);show aB ?_;show ac (jC ho hd ?_);have h1:∀x,(bs.map bv).toArray ≠ #[x]:=λx e=>by
  have:=congrArg Array.size e;simp at this;show lin 19866060262465 263 tt h2 this
 generalize hit:(bs.map bv).toArray=items at h1 hd;have hsz:items.size=bs.length:=by rw[<- hit];simp
 obtain⟨L⟩:=items
 match L,h1 with
 |[],_=>exfalso;simp at hsz;show lin 19866058863681 295 tt h2 hsz
 |[x],h1=>show absurd rfl (h1 x)
 |x::y::r,_=>
  show ac ?_;apply @aM _ _ _ _ Y _ _;rw[oY,show[:(⟨x::y::r⟩:Array aL).size].size=bs.length by rw[hsz];simp[oX]];show Po (M:=aQ prog w) (λi=>(((bs.take i).map (·.1)).toArray,(bs.take i).map λp=>(bv p,none))) bs.length 0 (λj b hj Q' hQ'=>?_) ?_
  .have hj':j<bs.length:=lin 23232957255746 263 tt hj;have gj:(⟨x::y::r⟩:Array aL).getD j .none=bv bs[j]:=(hit▸U6 hj');show ac (jC ho hd ?_)
   dsimp only
   rw[gj,any_no];show ac (dL (Ng ?_));show ac (jC ho hd ?_)
   dsimp only
   rw[if_neg (by rw[bne_self_eq_false];decide)];show aB ?_;rw[<- R8 hj']at hQ';show hQ'
  .rw[gc,lM];show ac (bQ (a:=#[]) rfl ?_);rw[show((#[]:Array UInt8).size*((bs.map (·.1)).toArray.size-1))=0 by simp,Ra,Rb,if_neg (ne_true_of_eq_false (ph (aC hz (nle tt))))];show ac ?_;apply @aM _ _ _ _ Y _ _;rw[R9,Rb];show wpAny_mkBytes ?_ (by rw[aN];show aC ‹_› (nle rfl));show ac (dL (PySem.wpAny_point ?_));show ac (Gv _ _ (λp hp=>by obtain⟨q,b,rfl⟩:=aE.mp hp;rfl) (aB (h _ _)))
end
open PySem PySem.W PyProof.Rows PySem.Calls PySem.SeqAt
set_option backward.match.sparseCases false
variable{F:Fx}{D:Dx}{m:Loc}{t:List Cl}{H:AH}{P:PH}{s:aW}{K:V->AH->Prop}
inductive EqC(P:g7)(c:aK):Prop
 |mk{nm q N bs hdct sn sub ab col dd k0 k1 k2 k3 k5 newId es ep oc od sl}(h1:(Am P).lookup c=some (iW nm q c N bs [.type "object"] hdct sn sub ab col dd k0 k1 k2 k3 k5 newId))(h2:(Am P).lookup N=some {oc,od,.dict es ep,sl})
  (h3:(es.all λe=>match e.key with|.str _ _=>true|_=>false)=true) (h4:mf es "__eq__"=none) (h5:mf es "__ne__"=none)
noncomputable abbrev EqF (c:aK):Prop:=∀P,EqC P c
theorem EqF.inst(E:EqF c)(ok:Ok F D m t H P s)(e:s.heap.get? x=some o)(ec:o.cls=.ref c):s.heap.CmpInst x c [.type "object"]:=by
 apply Y;cases E F.g.w.params with
 |@mk nm q N bs hdct sn sub ab col dd k0 k1 k2 k3 k5 newId es ep oc od sl h1 h2 h3 h4 h5=>
  show{o,nm,q,N,bs,hdct,sn,sub,ab,col,dd,k0,k1,k2,k3,k5,newId,λname=>mf es name,e,ec,ok.bp _ _ h1,{_,es,ep,ok.bp _ _ h2,rfl,λe he=>?_,λa=>rfl},h4,h5};have:=(Array.all_eq_true_iff_forall_mem.mp h3) e he
  cases hk:e.key with
  |str q t=>show⟨q,t,rfl⟩
  |_=>simp only[hk]at this;show aR this
theorem VRs.take(r:VRs P xs vs)(n:Nat):VRs P (xs.take n) (vs.take n):=by
 induction r generalizing n with
 |nil=>simp only[List.take_nil];show .nil
 |cons h _ ih=>induction n using Nat.casesOn with
  |zero=>show .nil
  |succ n=>show .cons h (ih n)
theorem VRs.drop(r:VRs P xs vs)(n:Nat):VRs P (xs.drop n) (vs.drop n):=by
 induction r generalizing n with
 |nil=>simp only[List.drop_nil];show .nil
 |cons h r ih=>induction n using Nat.casesOn with
  |zero=>show .cons h r
  |succ n=>show ih n
theorem VRs.erase(r:VRs P xs vs)(n:Nat):VRs P (xs.eraseIdx n) (vs.eraseIdx n):=by
 simp only[List.eraseIdx_eq_take_drop_succ];show(r.take n).append (r.drop _)
def Insts(H:AH)(c:aK)(xs:List V):Prop:=∀x∈xs,∃r d,x=.ref r/\H r=some (.inst c d)
theorem M6{vs:List aL}(h:i<vs.length):vs.toArray.eraseIdxIfInBounds i=(vs.eraseIdx i).toArray:=by simp[h]
theorem WC.remove{i:Nat}(E:EqF c)(e:H a=some (.list xs))(hi:Insts H c xs)(hb:xs[i]?=some ↑b)(nb:∀j,j<i->xs[j]? ≠ some ↑b)(hz:xs.length<=2^20)(h:K .none (H.set a (.list (xs.eraseIdx i)))):
  WC F (.builtin "list.remove") [↑a,↑b] H K:=by
 apply @WC _ _ Y _ _;intro D m t P s ys ok r;obtain⟨f,f,rfl,rfl,rfl⟩:=r.two;apply @A2 _ _ _ Y _ _ _;obtain⟨vs,⟨k,pl⟩,rv⟩:=(ok.q.own a _ e).2.2;have hl:=rv.len;have at_:∀j(h1:j<vs.toArray.size),∃r d,vs.toArray[j]=.ref r/\xs[j]?=some ↑r/\H r=some (.inst c d):=λj h1=>by
  apply Y;obtain⟨x,e1,r1⟩:=rv.at j h1;obtain⟨r,d,rfl,hr⟩:=hi x (aX e1);show⟨r,d,r1,e1,hr⟩
 have inst:∀r d,H r=some (.inst c d)->s.heap.CmpInst r c [.type "object"]:=λr d hr=>by
  induction ((ok.q.own r _ hr).2.2) using D4.casesOn with
  |plain _ z=>show E.inst ok z rfl
  |exc _ _ _ _ _ _ z=>show E.inst ok z rfl
 have hj:i<vs.toArray.size:=by simp only[aN,<- hl];show(aI.mp hb).1
 obtain⟨rb,db,hb1,hb2,hb3⟩:=at_ i hj;rw[hb]at hb2;clear r;injection hb2 with hb2;injection hb2 with hb2;subst hb2;have g:∀y:aL,@decide (y=.ref b) (cU _)=true↔y=.ref b:=λy=>@decide_eq_true_iff _ (cU _);show lf <| call_meets l6 (T:="list") ⟨_,pl,rfl⟩ PySem.F.entry_list_remove (PySem.F.args_list_remove_2 _ _) (K9 a vs.toArray k ↑b (λy=>@decide (y=.ref b) (cU _)) i hj ((g _).mpr hb1) (λj h1 h2=>?_) (by simp only[aN,<- hl];show aC ‹_› (nle rfl))) {pl,λy hy=>?_,?_}
 .obtain⟨r,d,e1,e2,f⟩:=at_ j h1;rw[jW,Ne,g,e1];intro q;clear c E e hi hb hz h D m t s ok vs rv k pl hl at_ inst hj db hb1 hb3 g h1 d e1 f;injection q with q;subst q;show nb j h2 e2
 .obtain⟨j,hj',rfl⟩:=Array.mem_iff_getElem.mp hy;obtain⟨r,d,e1,f,hr⟩:=at_ j hj';rw[e1];by_cases er:r=b
  .clear xs i E e hi hb nb hz h m t ok vs rv k pl hl at_ inst hj db hb1 hb3 j hj' hy d e1 f hr;rw[er];rw[(g _).mpr rfl];show EqAt.same _
  .simp only[show @decide (lN r=.ref b) (cU _)=false from jW.mpr λq=>er (Value.ref.inj ((g _).mp q))];show EqAt.of_refs er λprog w E Q hq=>richCompare_eq_other mw mw (inst _ _ hr) (inst _ _ hb3) er (Nat.lt_trans ok.d.a.u9 (nle tt)) hq
 .show(ok.c8 (n:=s.toks) (o':=.list (xs.eraseIdx i)) e (cJ ..) {vs.eraseIdx i,?_,rv.erase i}).val h rfl;simp only[<- M6 hj];show{_,cM _ pl rfl}
theorem Nh{i:Int}{n:Nat}(h0:0<=i)(h1:i<n):qd i n=some i.toNat:=by
 unfold qd;rw[if_neg (nU.mpr h0),if_pos (by simp only[decide_eq_true h0,decide_eq_true h1];rfl)]
theorem U2.delL{i:Int}{K:AH->Prop}(e:H a=some (.list xs))(h0:0<=i)(h1:i<xs.length)(hz:xs.length<=2^20)(h:K (H.set a (.list (xs.eraseIdx i.toNat)))):U2 F pR ↑a (.int i) H K:=by
 intro D m t P s x y ok;apply @A2 _ _ _ _ Y _ _;obtain⟨b,e9⟩:=ok.top;rw[e9];rw[ok.top2];apply Y;obtain⟨vs,pl,rv⟩:=(ok.q.own a _ e).2.2;have hl:=rv.len;have sz:=szl;show lf <| wpAny_delItem_plain (k:=i.toNat) pl (fitsIndex_of h0 (lin 0x6d0254e82d0fc47e949 9479 tt h1 hz)) (Nh h0 (by simp only[aN,<- hl];show h1)) (λh' il' sb=>?_) (by rw[aN];lia);rw[M6 (by show lin 0x6d0655886e2d02a104b 403719 tt h1 hl (bD h0))]at il';show(ok.pop.pop.c8 (n:=s.toks) (o':=.list _) e sb {_,il',rv.erase _}).unit h
theorem WC.f7(as:AsI H v mm)(hz:mm.length<=2^20)(h:∀a,H a=none->K ↑a (H.set a (.ae mm))):WC F (.type "dict") [v] H K:=by
 intro D m t P s ys ok r;apply Y;obtain⟨b,rfl,r1⟩:=r.one;obtain⟨l,xs,rfl,ns,z,r⟩:=ok.asI as r1;have n0:=Ak (h:=s.heap) (bC _);show lf <| kt_call_dict (by simpa using ns) z (by show r.len▸?_;show aC ‹_› (nle rfl)) λh' hd sb=>?_;show(ok.same (ok.q.bb (t:=s.toks) (o:=.ae mm) (λc o e'=>(sb.2 c (by rintro rfl;rw[n0]at e';show absurd e'.symm (aF _))).trans (bA _ e')) n0 {xs,ok.nsm,hd,r})).val (h _ (ok.q.fresh n0).1) rfl
def ldel{α:Type}(mm:List (Int×α))(k:Int):List (Int×α):=mm.filter λp=>decide (p.1≠k)
theorem VM.del(r:VM P mm xs)(k:Int):VM P (ldel mm k) (ldel xs k):=by
 induction r with
 |nil=>show .nil
 |@cons j v x m xs h _ ih=>
  unfold ldel at ih ⊢;simp only[jK,jK];split
  .show .cons h ih
  .show ih
theorem U2.delI{K:AH->Prop}(e:H a=some (.ae mm))(hk:(lget mm k).isSome=true)(hz:mm.length<=2^20)(h:K (H.set a (.ae (ldel mm k)))):U2 F pR ↑a (.int k) H K:=by
 intro D m t P s x y ok;apply @A2 _ _ _ _ Y _ _;obtain⟨b,e9⟩:=ok.top;rw[e9];rw[ok.top2];apply Y;obtain⟨xs,ns,z,r⟩:=(ok.q.own a _ e).2.2;show lf <| wpAny_delItem_slot z.typeIs rfl kP (call_meetsIn kP z.typeIs PySem.F.entry_dict_delitem (PySem.F.args_dict_delitem_2 _ _) (meets_dict_delitem_pairs (gH pw F.g.w) a Dy)
  {_,z,by show r.len▸?_;show aC ‹_› (nle rfl),by rw[r.isSome];show hk,λh' hm sb=>(ok.pop.pop.c8 (n:=_) (o':=.ae _) e sb {_,ns,hm,r.del k}).unit h})
theorem Ei{g:Gl}(hs:F3 e)
  (hk:mj f=pure i7) (h:A2 g.M A (ch e env) (λx s₁=>A2 g.M A (call f [x]) Q E s₁) E s):A2 g.M A (jM pos f [] (hH pos (eK [e] env)) []) Q E s:=by
 show Cd (P:=λb=>True) (by rw[Cj (.cons hs .nil)];rfl) (λh b=>{.machine,.inr (.inl rfl),.of_pure hk}) ?_;apply @A2 _ _ _ _ Y _ _;rw[hs];show Bz ?_;change A2 _ _ (do
  let v <- ch e env;let here <- (pure [v]:kh (List aL))
  return here++(<- cN here (kW (hH pos (eK [] env))))) _ _ s
 show A0 (A4 h (λx s₁ h₁=>A0 (A1 (A0 (A3 (A1 (A1 ⟨trivial,h₁⟩)))))) λb b x=>x)
def cf(mm:List (Int×V)):List V:=mm.map λp=>.tup [.int p.1,p.2]
class inductive Tups(P:PH)(h:j3):List (Int×V)->List aK->Prop
 |nil:Tups P h [] []
 |cons{k v mm a as tk y}(e:h.get? a=some {cls:=.type "tuple",data:=.seq #[.int k tk,y]})(r:VR P v y)(t:Tups P h mm as):Tups P h ((k,v)::mm) (a::as)
theorem Tups.mono(f:Fro P P')(x:Tups P h mm as):Tups P' h mm as:=by
 induction x with
 |nil=>show .nil
 |cons e r _ ih=>show .cons e (r.mono f) ih
theorem Ok.cf:∀{as:List aK}{P:PH},Ok F D m t H P s->Tups P s.heap mm as->as.Pairwise (· < ·)->(∀a∈as,H a=none/\P a=none/\F.g.base.get? a=none)->∃P',Ok F D m t H P' s/\VRs P' (cf mm) (as.map .ref)/\∀b,b∉as->P' b=P b:=by
 induction mm with
 |nil=>intro as P ok x c c;apply Y;rcases x;show{P,ok,.nil,λc c=>rfl}
 |cons p mm ih=>
  intro as P ok x rise fr;apply Y;cases x with
  |@cons k v _ a as tk y e r x=>
   obtain⟨r1,r2⟩:=nG.mp rise;obtain⟨e1,e2,e0⟩:=fr a (.head _);have nw:=Fro.new (p:=.fro (.tup [.int k,v])) e2;have ok1:=(ok.take (p:=.fro (.tup [.int k,v])) e0 e1 e2 {[.int k tk,y],⟨_,e,rfl,_,rfl⟩,.cons ⟨_,rfl⟩ (.cons (r.mono nw) .nil)}).1;obtain⟨P',ok2,rs,hb⟩:=ih ok1 (x.mono nw) r2 λb hb=>(fr b (.tail _ hb)).elim λf1 y0=>y0.elim λf2 f3=>{f1,(if_neg (mA (r1 b hb))).trans f2,f3};show{P',ok2,.cons {a,rfl,(hb a (λh=>pV _ (r1 a h))).trans (if_pos rfl)} rs,λb h=>(hb b λq=>h (.tail _ q)).trans (if_neg λ(q:b=a)=>h (q▸.head _))}
theorem Wi(r:VM P mm xs):∀{as:List aK},as.length=xs.length->(∀(j:Nat)(a:aK),as[j]?=some a->∃key k x,xs[j]?=some (k,x)/\iq k key=true/\h.get? a=some {cls:=.type "tuple",data:=.seq #[key,x]})->Tups P h mm as:=by
 induction r with
 |nil=>intro as e b;simp only[eD e];show .nil
 |cons hx _ ih=>
  intro as e q;apply Y;induction as with
  |nil=>contradiction
  |cons a as=>
   obtain⟨key,k,x,e1,e2,e3⟩:=q 0 a rfl;injection e1 with e1;injection e1 with e1 e8;subst e1;subst e8;obtain⟨tk,rfl⟩:=nB e2;show .cons e3 hx (ih (cS e) λj a hj=>q (j+1) a hj)
theorem WE.items(hb:∀env w,fU o "items" env w=w)(hl:ap.endLine=pos2.line)(hm:(x,.globalImplicit,ov)∈m)(G:BltF x (.type "list"))
  (h:WE F m H o λv H1=>∃mm,AsI H1 v mm/\mm.length<=2^20/\K (.list (cf mm)) H1):WE F m H (.Call (.Name x np) [.Call (.Attribute o "items" ap) [] [] pos2] [] pos) K:=by
 intro D t P s ok;apply @A2 _ _ _ _ Y _ _;show Ar (G.load hm ok (Ei (λi i=>rfl) G.fv (Fy hb .nil (nle tt) hl (h.seq ok λy s₁ v H₁ P₁ k ok1 pl=>?_))));apply @A2 _ _ _ _ Y _ _;obtain⟨mm,as,hz,k⟩:=k;show Gm.ae lh rfl as D m _ P₁ s₁ y pl _ _ ok1 ok1.top ?_;obtain⟨l,xs,rfl,ns,z,r⟩:=ok1.asI as ok1.top;have lv:=r.len;show Cd (P:=λi=>True) rfl (λh i=>{.machine,.inr (.inl rfl),.of_pure rfl}) (λΓ p hΓ i=>mY (f:=.builtin "dict.items") {trivial,?_} Γ p hΓ);show lf <| call_meetsIn lh z.typeIs PySem.F.entry_dict_items (PySem.F.args_dict_items_1 _) (meets_dict_items (gH pw F.g.w) l (by simpa using ns)) {⟨_,z⟩,?_};apply Y;obtain⟨ep,Da⟩:=(z.push {cls:=.type "dict_items",data:=.fields #[↑l]}).dictAt;show lf <| kdx_call ok1.d.a.quiet {_,bI _ rfl,rfl,rfl} Da (by show lv▸?_;show aC ‹_› (nle rfl)) λh' tk acc c ad k1 e2 hl2 G2 ha=>?_;have kp:=λb q e=>k1 b q (bA _ e);have lo:∀b,s₁.heap.objs.size<=b->H₁ b=.none/\P₁ b=.none/\F.g.base.get? b=.none:=λb hb=>ok1.q.fresh (Ak hb);rw[cY]at e2 G2;obtain⟨P2,ok3,rs,hb⟩:=(ok1.pop.grow (n:=tk) kp).cf (Wi r hl2 G2.pairs) G2.rise λa hm=>lo a (mC (Nat.lt_of_succ_lt (G2.above a hm)));obtain⟨l1,l2,l3⟩:=lo _ (jS _);have l2':=(hb _ λhm=>pV _ (G2.above _ hm)).trans l2;have ok4:=(ok3.take (p:=.fro (.list (cf mm))) l3 l1 l2' {ad.map .ref,{c,by show ha▸?_;show e2},rs.mono (.new l2')}).1;simp only[cY];show ok4.val k {_,rfl,if_pos rfl}
def b5(qs:List (Int×V)):List (Int×V):=qs.foldl (λd p=>lput d p.1 p.2) []
theorem Rc:∀{xs:List (Int×aL)},∀j,j∈(lput xs k w).map (·.1)->j=k\/j∈xs.map (·.1):=by
 intro l9
 induction l9 with
 |nil=>intro j h;show .inl (aP.mp h)
 |cons x9 r ih =>
  intro j h;obtain⟨i,v⟩:=x9;apply Y;rcases bB (i=k) with e|e
  .have h:=(show lput ((i,v)::r) k w=(i,w)::r from if_pos e)▸h;show .inr h
  .have h:=(show lput ((i,v)::r) k w=(i,v)::lput r k w from if_neg e)▸h;rcases aS.mp h with e8|h
   .subst e8;show .inr (.head _)
   .show(ih j h).imp id (.tail _)
theorem Wj:∀{xs:List (Int×aL)},(xs.map (·.1)).Nodup->((lput xs k w).map (·.1)).Nodup:=by
 intro l9
 induction l9 with
 |nil=>intro z1;show bX.mpr ⟨aD,ny⟩
 |cons x9 r ih =>
  intro h;obtain⟨i,v⟩:=x9;rcases bB (i=k) with e|e
  .rw[show lput ((i,v)::r) k w=(i,w)::r from if_pos e];show h
  .rw[show lput ((i,v)::r) k w=(i,v)::lput r k w from if_neg e];apply Y;obtain⟨h1,h2⟩:=bX.mp h;show bX.mpr {λq=>(Rc _ q).elim e h1,ih h2}
theorem Wk(r:VM P qs ps):∀{mm:List (Int×V)}{xs:List (Int×aL)},VM P mm xs->(xs.map (·.1)).Nodup->VM P (qs.foldl (λd p=>lput d p.1 p.2) mm) (ps.foldl (λd p=>eJ d p.1 p.2) xs):=by
 induction r with
 |nil=>show λh a=>h
 |@cons j v x _ _ h _ ih=>intro mm xs q nd;have e:=Fg (k:=j) (x:=x) nd;show ih (show VM P _ (eJ xs j x) from e▸q.put j h) (show((eJ xs j x).map (·.1)).Nodup from e▸Wj nd)
theorem Wl(q:Rel F.g H P s):∀{vs:List aL},VRs P (cf qs) vs->∃ps:List (Int×aL),VM P qs ps/\ps.length=vs.length/\∀(j:Nat)(v:aL)(p:Int×aL),vs[j]?=some v->ps[j]?=some p->∃t k,v=.ref t/\rA s.heap t #[.int p.1 k,p.2]:=by
 induction qs with
 |nil=>intro vs r;apply Y;rcases r;show{[],.nil,rfl,λj v p e=>absurd e.symm (aF _)}
 |cons p qs ih=>
  intro vs r;apply Y;cases r with
  |cons h r=>
   obtain⟨ps,e,el,k⟩:=ih r;obtain⟨a,rfl,e1⟩:=h;obtain⟨ys,it,r3⟩:=(q.prv a _ e1).2;obtain⟨b,y,rfl,⟨tk,rfl⟩,ry⟩:=r3.two;show{(p.1,y)::ps,.cons ry e,congrArg k8 el,λj v q h1 h2=>?_};apply Y;induction j using Nat.casesOn with
   |zero=>injection h1 with h1;subst h1;injection h2 with h2;subst h2;show⟨a,tk,rfl,it⟩
   |succ j=>show k j v q h1 h2
theorem WC.dictP(as:AsL H v o (cf qs))(hz:qs.length<=2^20)(h:K (.ae (b5 qs)) H):WC F (.type "dict") [v] H K:=by
 intro D m t P s ys ok r;apply Y;obtain⟨b,rfl,r1⟩:=r.one;clear r;obtain⟨l,vs,rfl,il,rs⟩:=ok.asL as r1;obtain⟨ps,e,el,k⟩:=Wl ok.q rs;show lf <| I7 ok.d.a.quiet il el.symm k ((e.len▸hz)) λh' tk kp hd=>?_;apply Y;obtain⟨a1,a2,a0⟩:=ok.q.fresh (Ak (bC _));have ok1:=((ok.grow (n:=tk) kp).take (p:=.fro (.ae (b5 qs))) a0 a1 a2 {_,ok.nsm,hd,(Wk e .nil ny).mono (.new a2)}).1;show ok1.val h {_,rfl,if_pos rfl}
def Rd(ns:List Int):List Int:=ns.foldl me []
theorem I8(ns:List Int):firstMet (λi=>ns.getD i 0) ns.length=Rd ns:=by
 delta firstMet Rd
 congr 1;show oo (by simp) λi h1 h2=>?_;simp at h1;simp[h1]
theorem O9:∀{vs:List aL},VRs P (ns.map .int) vs->IntsAre vs ns:=by
 induction ns with
 |nil=>intro vs r;cases r;show .nil
 |cons n ns ih=>intro vs r;cases r with
  |cons h t=>show h.elim λ_ e=>e▸.cons _ _ (ih t)
theorem WE.lenSet(hs:F3 e)(hm:(x,.globalImplicit,ov)∈m)(G:BltF x (.builtin "len"))(hm2:(y,.globalImplicit,ov')∈m)(G2:BltF y (.type "set"))
  (h:WE F m H e λv H1=>∃ow ns,AsL H1 v ow (ns.map .int)/\ns.length<=1000/\K (.int (Rd ns).length) H1):WE F m H (.Call (.Name x np) [.Call (.Name y np2) [e] [] pos2] [] pos) K:=by
 intro D t P s ok;apply @A2 _ _ _ _ Y _ _;show Ar (G.load hm ok (Ei (λc c=>rfl) G.fv (Ar (G2.load hm2 ok (Ei hs G2.fv (h.seq ok λz s₁ v H₁ P₁ k ok1=>?_))))));apply Y;obtain⟨ow,ns,as,hz,k⟩:=k;obtain⟨l,vs,rfl,il,rs⟩:=ok1.asL as ok1.top;have len:=rs.len;have len:=(aA ..)▸len;show lf <| call_set_list ok1.d.a.quiet il.isList (O9 rs) (by rw[aN];unfold scanBound;show lin 0x9fa3825844a00004000dda842 10535 tt hz len) λh' tk so kp=>?_;rw[show vs.toArray.size=ns.length by simp only[len];show aN ..,I8]at so;apply Y;obtain⟨o,es,ep,t,ho,hex,hd,c,c,c,hf,hn⟩:=so;have hle:(Rd ns).length<=ns.length:=by rw[<- I8];show firstMet_length_le _ _
 show lf <| call_len_set ho hex hd hf (by show eG hn▸?_;show lin 0x13f47049105a1f88fda042 9479 tt hz hle) ?_;show hn▸(ok1.pop.grow (n:=tk) λb o e=>kp b o (gb e) e).int k
end
section
variable{F:Fx}{D:Dx}{m:Loc}{t:List Cl}{H:AH}{P:PH}{s:aW}{K:V->AH->Prop}
theorem WC.b9(h0:0<=i)(h1:i<=2^20)(h:K (.bytes (bO i.toNat 0)) H):WC F (.type "bytes") [.int i] H K:=by
 intro D m t P s ys ok r;apply @A2 _ _ _ _ Y _ _;obtain⟨a,rfl,a,rfl⟩:=r.one;show lf <| Gj (λQ' hq=>Ka h0 h1 (hq _ _)) λt k=>(ok.toks _).val h ⟨t,rfl⟩
theorem WC.bytesY(h:K (.bytes b) H):WC F (.type "bytes") [.bytes b] H K:=by
 intro D m t P s ys ok r;apply @A2 _ _ _ _ Y _ _;obtain⟨a,rfl,a,rfl⟩:=r.one;show lf <| Gj (λQ' hq=>Hz (hq _ _)) λt k=>(ok.toks _).val h ⟨t,rfl⟩
theorem WC.fj(e:H c=some (.c6 b))(hz:b.length<=2^20)(h:K (.bytes b) H):WC F (.type "bytes") [↑c] H K:=by
 intro D m t P s ys ok r;apply @A2 _ _ _ _ Y _ _;obtain⟨a,rfl,rfl⟩:=r.one;show lf <| Gj (λQ' hq=>Lq (by rw[aN];show hz) (ok.q.own _ _ e).2.2 (hq _ _)) λt k=>(ok.toks _).val h ⟨t,rfl⟩
def octs(ns:List Int):List UInt8:=ns.map λn=>n.toNat.toUInt8
theorem WC.du{o:Option aK}{ns:List Int}(as:AsL H v o (ns.map .int))(hr:∀n∈ns,0<=n/\n<256)(hz:ns.length<=2^20)(h:K (.bytes (octs ns)) H):WC F (.type "bytes") [v] H K:=by
 intro D m t P s ys ok r;apply Y;obtain⟨b,rfl,r1⟩:=r.one;clear r;obtain⟨l,vs,rfl,il,rs⟩:=ok.asL as r1;have len:=rs.len;have sz:=szl;rw[aA]at len;show lf <| call_bytes_ints il.isList (O9 rs) hr (szL hz (by rw[<- rs.len,aA])) ok.d.a.quiet λh' t k kp=>(ok.grow kp).val h ⟨t,rfl⟩
theorem Ok.ba{b:List UInt8}(ok:Ok F D m t H P s)(sb:cP s.heap.objs.size (s.heap.push (bao #[])) h')(e:h'.get? s.heap.objs.size=some (bao b.toArray))(h:∀a,H a=none->K ↑a (H.set a (.c6 b))):PV F D m t K ↑s.heap.objs.size {s with heap:=h'}:=by
 have n0:=Ak (h:=s.heap) (bC _);show(ok.same (ok.q.bb (t:=s.toks) (o:=.c6 b) (λc o e'=>(sb.2 c (by rintro rfl;rw[n0]at e';show absurd e'.symm (aF _))).trans (bA _ e')) n0 e)).val (h _ (ok.q.fresh n0).1) rfl
theorem WC.baN(h:∀a,H a=none->K ↑a (H.set a (.c6 []))):WC F (.type "bytearray") [] H K:=by
 intro D m t P s ys ok r;apply @A2 _ _ _ _ Y _ _;rcases r;show Dn (Q₁:=λobj s₁=>obj=.ref s.heap.objs.size/\s₁ = {s with heap:=s.heap.push (bao #[])}) I2 (by decide +kernel) Lu Dz (Fh N8 ⟨rfl,rfl⟩) λobj s₁ h₁=>?_;obtain⟨rfl,rfl⟩:=h₁;have e:(s.heap.push (bao #[])).get? s.heap.objs.size=some (bao #[]):=bI _ rfl;show{⟨_,e,rfl⟩,⋯,U0 e λh' x y=>{rfl,ok.ba (b:=[]) x y h}}
theorem WC.baY(hz:b.length<=2^20)(h:∀a,H a=none->K ↑a (H.set a (.c6 b))):WC F (.type "bytearray") [.bytes b] H K:=by
 intro D m t P s ys ok r;apply @A2 _ _ _ _ Y _ _;obtain⟨c,rfl,c,rfl⟩:=r.one;show Dn (Q₁:=λobj s₁=>obj=.ref s.heap.objs.size/\s₁ = {s with heap:=s.heap.push (bao #[])}) I2 (by decide +kernel) (Gu _) Dz (Fh (I3 _) ⟨rfl,rfl⟩) λobj s₁ h₁=>?_;obtain⟨rfl,rfl⟩:=h₁;have e:(s.heap.push (bao #[])).get? s.heap.objs.size=some (bao #[]):=bI _ rfl;show{⟨_,e,rfl⟩,⋯,O8 e (by rw[aN];show hz) λh' x y=>{rfl,ok.ba (b:=b) x y h}}
theorem WC.lenA(e:H a=some (.c6 b))(hz:b.length<=2^30)(h:K (.int b.length) H):WC F (.builtin "len") [↑a] H K:=by
 intro D m t P s ys ok r;apply @A2 _ _ _ _ Y _ _;obtain⟨c,rfl,rfl⟩:=r.one;show lf <| len_ba (ok.q.own _ _ e).2.2 (by rw[aN];show aC ‹_› (nle rfl)) λt k=>ok.int (by rw[aN];show h)
theorem WC.g5(e:H a=some (.c6 b))(hz:b.length+c.length<=2^20)(h:K .none (H.set a (.c6 (b++c)))):WC F (.builtin "bytearray.extend") [↑a,.bytes c] H K:=by
 apply @WC _ _ Y _ _;intro D m t P s ys ok r;apply @A2 _ _ _ _ Y _ _;obtain⟨d,d,rfl,rfl,d,rfl⟩:=r.two;have ha:=(ok.q.own _ _ e).2.2;show R6 (by decide +kernel) F5 ha I5 (Iz _ _) (R5 ha (by rw[aN];show hz) λh' x y=>(ok.c8 (n:=s.toks) (o':=.c6 _) e x (y.trans (by rw[ng];rfl))).val h rfl)
theorem Gm.ba{b:List UInt8}{id:String}(slot:mu "bytearray" name id)(hty:gJ (.builtin id)=pure (.type "method_descriptor"))(e:H a=some (.c6 b)):Gm F H ↑a name id:=by
 intro D m t P s x pl Q E ok r hq;subst r;have ho:=(ok.q.own _ _ e).2.2;show lf <| getMethod_builtin (T:="bytearray") ⟨_,ho,rfl⟩ U1 slot hty (λa' e'=>by injection e' with e';subst e';show⟨_,ho,rfl⟩) hq
theorem Gm.bytes{b:List UInt8}{id:String}(slot:mu "bytes" name id)(hty:gJ (.builtin id)=pure (.type "method_descriptor")):Gm F H (.bytes b) name id:=by
 intro D m t P s x pl Q E ok r hq;obtain⟨a,rfl⟩:=r;show lf <| getMethod_builtin (T:="bytes") (cH _ _ _) FB.plainAttrs_bytes slot hty (λa' e'=>nomatch e') hq
theorem WG.all
  (h:WE F m H o λov H1=>∃a b,ov=.ref a/\H1 a=some (.c6 b)/\c.length=b.length/\c.length<=2^20/\KN m (H1.set a (.c6 c))):WG F m H (.Subscript o (.Slice .none .none .none p') p) (.bytes c) KN:=by
 intro D t P s y ok;apply @A2 _ _ _ _ Y _ _;change A2 _ _ (do
  let ov <- cN [y] (ch o D.env);let iv <- cN [y,ov] (ch (.Slice none none none p') D.env)
  cQ p
  cN [y,ov,iv] (gF ov iv y)
  jb [iv,y,ov] []) _ _ _
 show A0 (A3 (h.seq ok λx s₁ ov H₁ P₁ k ok1=>?_));obtain⟨a,b,rfl,e,hl,hz,k⟩:=k;obtain rfl:=ok1.top;clear ok;obtain⟨t,e9⟩:=ok1.top2;rw[e9];show A0 (A3 (Gs (lf (wpAny_evalPart_none (lf (wpAny_evalPart_none (lf (wpAny_evalPart_none ?_))))))));have kp:=Bd (h:=s₁.heap) {cls:=.type "slice",data:=.fields #[.none,.none,.none]};have ha:=kp _ _ (ok1.q.own _ _ e).2.2;show A0 (A5 (A0 (A3 (Pm ha (R6 (by decide +kernel) I6 ha M1 (Nd _ _ _) (R7 ha (iS ..) (by simp only[aN,aN];show hl) (by rw[aN];show hz) λh1 h2 k1 x2 y2=>?_))))));show Bl {m,_,P₁,k,(ok1.pop.pop.grow (h':=h1) (n:=s₁.toks) λb q e=>k1 b q (kp b q e)).c8 (n:=s₁.toks) (o':=.c6 c) e x2 y2}
theorem U7:∀{vs:List aL},VRs P (bs.map .bytes) vs->∃ps:List (Array UInt8×qi),vs=ps.map bv/\ps.map (·.1.toList)=bs:=by
 induction bs with
 |nil=>intro vs r;cases r;show{[],rfl,rfl}
 |cons b bs ih=>intro vs r;apply Y;cases r with
  |cons h r=>obtain⟨t,e⟩:=h;obtain⟨ps,e1,e2⟩:=ih r;show{(b.toArray,t)::ps,by simp only[e,e1];rfl,congrArg (cW b) e2}
theorem WC.join{o:Option aK}{bs:List (List UInt8)}(as:AsL H v o (bs.map .bytes))(h2:2<=bs.length)(hz:bs.flatten.length<=2^20)(h:K (.bytes bs.flatten) H):WC F (.builtin "bytes.join") [.bytes [],v] H K:=by
 intro D m t P s ys ok r;apply Y;obtain⟨a,a,rfl,⟨a,rfl⟩,r2⟩:=r.two;clear r;obtain⟨l,vs,rfl,il,rs⟩:=ok.asL as r2;clear as;obtain⟨ps,rfl,rfl⟩:=U7 rs;show Cg (Bx (by decide +kernel) Cf.plain M5 (lf (Cf.check _ _ _ _ _ _ _ _ (cH _ _ _) (Nf _ _) (lf (iK (Wh (by rwa [aA]at h2) il.isList hz λt k=>(ok.toks k).val (v:=.bytes _) h ⟨t,rfl⟩) (λfin s₂ h₂=>?_) λa a x=>x)))))
 induction fin using PySem.Fin.casesOn with
 |again c'=>show h₂.elim
 |done f=>show h₂
theorem Kd
  (h:A2 M A x (λv s₁=>∃y t,v=.str y t/\acc.length+y.length<=dM/\A2 M A (joinParts (acc++y) rest) Q E s₁) E s):A2 M A (joinParts acc (x::rest)) Q E s:=by
 show A0 (A4 h (λv s₁ h₁=>?_) λa a e=>e);apply Y;obtain⟨y,t,rfl,hz,hr⟩:=h₁;show A0 (A1 ?_);apply @A2 _ _ _ Y _ _ _;change A2 M A (if acc.length+y.length > dM then _ else _) Q E s₁;rw[if_neg (g8.mpr hz)]
 first
  |show hr
  |show A0 (A1 hr)
theorem WE.fstr{s1 s2:bY}(h1:s1.length<=1000)(h2:s2.length<=1000)(h:WE F m H e λv H1=>∃i,v=.int i/\i.natAbs.log2<1920/\∀t,K (.str t) H1):
  WE F m H (.JoinedStr [.Constant (.str s1) k1 p1,.FormattedValue e (-1) .none p2,.Constant (.str s2) k2 p3] p) K:=by
 intro D t P s ok;have sz:=szl;show Kd (lf <| wpAny_Constant_str {s1,_,rfl,aC (fK (gc _)) (aC h1 (nle tt)),Kd ?_});show(let K4:=_;let K6:=_;(?_:@A2 _ _ _ _ K4 _ K6));show A0 (h.seq (ok.toks _) λx s₁ v H₁ P₁⟨i,e,hi,k⟩ok1=>?_);subst e;obtain⟨t,rfl⟩:=ok1.top;have i1:=int_text_len_1921 hi;show A0 (A5 ?_);have l2:(Str.empty++s1++ce (toString i)).length=s1.length+(ce (toString i)).length:=by rw[ke,ke];show congrArg (·+_) (gc _)
 show A0 (A3 (A1 (lf (wpAny_formatField_int hi {_,_,rfl,?_,?_}))))
 .rw[<- ke,l2];show aC (jj ‹_› ‹_›) (nle rfl)
 show Kd (lf <| wpAny_Constant_str {s2,_,rfl,by rw[l2];lia,?_});show lf (wpAny_mkStr ((ok1.pop.toks _).val (k _) ⟨_,rfl⟩) (by rw[ke,l2];lia))
variable{mc mc':Loc}{t':List Cl}{H':AH}{P':PH}{s':aW}{xs:List V}{acc C:aK}
theorem Ok.back(o:Ok F D m t H P s)(k:∀a p,P a=some p->(∀ob,p ≠ .obj ob)->P' a=some p)(sub:∀a p,D.P₀ a=some p->P' a=some p)(q:Rel F.g H' P' s')(st:∀c∈t',c.holds D.P₀ P')(ap:(Cl.addrs t').Nodup):Ok F D m t' H' P' s':=by
 have fr:Fro P P':=λa p e h=>k a p e λob y=>by subst y;rcases h with⟨b,h⟩|⟨b,h⟩<;>contradiction
 show{o.d,q,sub,o.nm,(o.loc).elim λn y0=>y0.elim λe y1=>y1.elim λl l'=>{n,k _ _ e λb y=>(by contradiction),l.mono fr,l'.mono fr},λx j ov hm hk=>(o.cel x j ov hm hk).elim λc y0=>y0.elim λcv y1=>y1.elim λe1 y2=>y2.elim λe2 e3=>{c,cv,e1,k _ _ e2 λb y=>(by contradiction),λv hv=>(e3 v hv).elim λw y0=>y0.elim λe r=>{w,e,r.mono fr}},st,ap}
theorem Ok.perm(o:Ok F D m t H P s)(p:t.Perm t'):Ok F D m t' H P s:={o.d,o.q,o.sub,o.nm,o.loc,o.cel,λc hc=>o.stk c (p.mem_iff.mpr hc),(p.filterMap _).nodup_iff.mp o.ap}
theorem Ok.wk(o:Ok F D mc' t H P s)(nm:mc.map (λp=>(p.1,p.2.1))=D.names)(h:∀x k w,(x,k,some w)∈mc->(x,k,some w)∈mc'):Ok F D mc t H P s:=by
 show{o.d,o.q,o.sub,nm,(o.loc).elim λn y0=>y0.elim λe y1=>y1.elim λl l'=>{n,e,λx v hm=>l x v (h _ _ _ hm),l'},λx j ov hm hk=>?_,o.stk,o.ap};apply Y;have hm':(x,j)∈mc'.map (λp:bY×aY×Option V=>(p.1,p.2.1)):=by simp only[o.nm,<- nm];show bZ hm
 obtain⟨⟨x',j',ov'⟩,h1,h2⟩:=aE.mp hm';clear hm';injection h2 with h2 e8;subst h2;subst e8;obtain⟨c,cv,e1,e2,a⟩:=o.cel _ _ _ h1 hk;show{c,cv,e1,e2,λv hv=>?_};apply Y;subst hv;apply Y;obtain⟨c',cv',f1,f2,f3⟩:=o.cel _ _ _ (h _ _ _ hm) hk;rw[e1]at f1;injection f1 with f1;subst f1;rw[e2]at f2;injection f2 with f2;injection f2 with f2;subst f2;show f3 v rfl
class inductive CompL(m:Loc):List (bY×aY)->Loc->Prop
 |nil:CompL m [] []
 |loc{x ns mc}(t:CompL m ns mc):CompL m ((x,.local)::ns) ((x,.local,none)::mc)
 |glob{x ns mc}(t:CompL m ns mc):CompL m ((x,.globalImplicit)::ns) ((x,.globalImplicit,none)::mc)
 |free{x k ov ns mc}(h:(x,k,ov)∈m)(hk:k=.cell\/k=.free)(t:CompL m ns mc):CompL m ((x,.free)::ns) ((x,k,ov)::mc)
theorem CompL.names(h:CompL m ns mc):mc.map (·.1)=ns.map (·.1):=by
 induction h with
 |nil=>rfl
 |loc _ ih=>show congrArg (cW _) ih
 |glob _ ih=>show congrArg (cW _) ih
 |free _ _ _ ih=>show congrArg (cW _) ih
theorem CompL.mem(h:CompL m ns mc)(e:(x,k,ov)∈mc):((x,k)∈ns/\k ≠ .cell/\k ≠ .free/\ov=none)\/((x,eF)∈ns/\(k=.cell\/k=.free)/\(x,k,ov)∈m):=by
 induction h with
 |nil=>show absurd e aD
 |loc _ ih=>cases e with
  |head=>show .inl {.head _,dte tt,dte tt,rfl}
  |tail _ e=>show(ih e).imp (λz9=>z9.elim λa b=>{.tail _ a,b}) λz9=>z9.elim λa b=>{.tail _ a,b}
 |glob _ ih=>cases e with
  |head=>show .inl {.head _,dte tt,dte tt,rfl}
  |tail _ e=>show(ih e).imp (λz9=>z9.elim λa b=>{.tail _ a,b}) λz9=>z9.elim λa b=>{.tail _ a,b}
 |free h1 h2 _ ih=>apply Y;cases e with
  |head=>show .inr {.head _,h2,h1}
  |tail _ e=>show(ih e).imp (λz9=>z9.elim λa b=>{.tail _ a,b}) λz9=>z9.elim λa b=>{.tail _ a,b}
theorem CompL.kind(h:CompL m ns mc){x:bY}{k:aY}(e:(x,k)∈ns):k ≠ .cell/\(k=.free->∃j ov,(j=.cell\/j=.free)/\(x,j,ov)∈m):=by
 apply Y;induction h with
 |nil=>show absurd e aD
 |loc _ ih=>cases e with
  |head=>show{dte tt,λe=>absurd e (dte tt)}
  |tail _ e=>show ih e
 |glob _ ih=>cases e with
  |head=>show{dte tt,λe=>absurd e (dte tt)}
  |tail _ e=>show ih e
 |free h1 h2 _ ih=>apply Y;cases e with
  |head=>show{dte tt,λa=>⟨_,_,h2,h1⟩}
  |tail _ e=>show ih e
theorem J9{env:oT}{ns:List (bY×aY)}:∀{cs:List (bY×aK)},(∀p∈cs,env.cells.lookup p.1=some p.2)->(∀x,(x,eF)∈ns->∃c,env.cells.lookup x=some c) ->
  ∃cl,forIn ns cs (λ(p:bY×aY)(cs:List (bY×aK))=>(do if p.2==.free then let c <- cellOf env p.1;pure (dK ((p.1,c)::cs)) else pure (dK cs):kh _))=pure cl/\(∀p∈cl,env.cells.lookup p.1=some p.2)/\(∀p∈cs,p∈cl)/\∀x,(x,eF)∈ns->∃c,(x,c)∈cl:=by
 induction ns with
 |nil=>intro cs h a;show{cs,rfl,h,λa h=>h,λa h=>absurd h aD}
 |cons p r ih=>
  intro cs h hc;rw[jd];by_cases hk:p.2=.free
  .obtain⟨c,e⟩:=hc p.1 (hk▸.head _);obtain⟨cl,h1,h2,h3,h4⟩:=ih (cs:=(p.1,c)::cs) (λq hq=>by apply Y;cases hq with
    |head=>show e
    |tail _ hq=>show h q hq) λx hx=>hc x (.tail _ hx)
   show{cl,?_,h2,λq hq=>h3 q (.tail _ hq),λx hx=>?_}
   .rw[hk,show cellOf env p.1=pure c by unfold cellOf;rw[e]];show h1
   .clear hc hk e h1;rcases aS.mp hx with e8|hx
    .subst e8;show{c,h3 _ (.head _)}
    .show h4 x hx
  .obtain⟨cl,h1,h2,h3,h4⟩:=ih (cs:=cs) h λx hx=>hc x (.tail _ hx);show{cl,?_,h2,h3,λx hx=>?_}
   .rw[show(p.2==eF)=false from beq_eq_false_iff_ne.mpr hk];show h1
   .clear hc;rcases aS.mp hx with e8|hx
    .subst e8;show absurd rfl hk
    .show h4 x hx
theorem Ja{β:Type}{l:List (bY×β)}{c:β}(h:(x,c)∈l):∃d,l.lookup x=some d:=by
 induction l with
 |nil=>show absurd h aD
 |cons p r ih=>
  rw[kq]
  induction e:x==p.1 using Bool.casesOn with
  |true=>show⟨_,rfl⟩
  |false=>
   apply Y;rcases aS.mp h with e8|h
   .subst e8;rw[beq_self_eq_true]at e;show aR e
   .show ih h
noncomputable abbrev Fx.cm (F:Fx):Fx:={F with KX:=NX,keep:=[],co:=true,code:=none}
theorem Ok.inn{cl:List (bY×aK)}(ok:Ok F D m t H P s)(L:CompL m scope.names mc)(hk:scope.kind=.function)(hnd:Fv (scope.names.map (·.1))=true)(hok:scope.names.all (λp=>nmOk p.1)=true)
  (c1:∀p∈cl,D.env.cells.lookup p.1=some p.2) (c2:∀x,(x,eF)∈scope.names->∃c,(x,c)∈cl) (fr:D.A.frames=some l) (fs:Frs P l) (hC:P C=some (.frame λf=>none)) (nC:D.P₀ C=none) (nl:∀e∈l,e.frame≠some C) :
  Ok F.cm {D.A,compEnvC scope cl C D.env,l,λa=>if a=C\/a∈Cl.addrs t then none else P a,mc.map λp=>(p.1,p.2.1)} mc t H P s:=by
 have obj:∀a,a∈Cl.addrs t->D.P₀ a=none/\∃o,P a=some (.obj o):=λa h=>by
  apply Y;obtain⟨c,hc,e⟩:=cX.mp h
  induction c using Cl.casesOn with
  |val=>contradiction
  |prv b o=>injection e with e;subst e;show{(ok.stk _ hc).1,o,(ok.stk _ hc).2}
 have back:∀x c,cl.lookup x=some c->D.env.cells.lookup x=some c:=λx c e=>c1 (x,c) (mem_of_lookup e);have nd:(mc.map (·.1)).Nodup:=by rw[L.names];show Ef hnd
 show{{ok.d.a,.co fr λb hb=>?_,λp hp=>?_,hk,ok.d.glob,ok.d.blt,by rw[dB];show nd,λp hp=>?_,λp hp=>?_,if_pos (.inl rfl),λx y c e1 e2=>ok.d.apart x y c (back x c e1) (back y c e2),λh=>(aR h),λf h=>(absurd h.symm (aF _))},ok.q,λa p e=>?_,rfl,{_,hC,λx v hm=>?_,λf f h=>absurd h aD},λx k ov hm hj=>?_,λc hc=>?_,ok.ap}
 .apply Y;obtain⟨k,L,n,e1,e2⟩:=fs b hb;show{k,L,n,e1,(if_neg λh=>?_).trans e2};clear ok hk hnd hok c1 c2 fr fs hC nC back nd k;rcases h with rfl|h
  .show nl b hb e1
  .obtain⟨f,o,e⟩:=obj _ h;rw[e2]at e;show nomatch e
 .have e:=ok.d.cl p hp;show(if_neg λh=>?_).trans (ok.sub _ _ e);rcases h with h|h
  .simp only[h,nC]at e;show absurd e.symm (aF _)
  .simp only[(obj _ h).1]at e;contradiction
 .obtain⟨⟨x,k,ov⟩,hm,rfl⟩:=aE.mp hp;show Dw (names:=(jR scope D.env).names) ?_ ?_
  .have:(jR scope D.env).names.map (·.1)=scope.names.map (·.1):=by
    unfold jR;rw[dB];show ju λp f=>by simp only[Function.comp];split<;>rfl
   simp only[this];show Ef hnd
  .rcases L.mem hm with⟨h1,h2,h3,f⟩|⟨h1,h2,h3⟩
   .show aE.mpr {(x,k),h1,if_neg (by rw[show(k==eF)=false from beq_eq_false_iff_ne.mpr h3];show bJ)}
   .show aE.mpr {(x,.free),h1,?_};have e:=(ok.kd h3).1
    dsimp only
    rw[ok.d.kind,e];clear cl l ok L hk hnd hok c1 c2 fr fs hC nC nl obj back nd ov hm hp h1 h3 e;rcases h2 with rfl|rfl<;>rfl
 .obtain⟨⟨x,k,ov⟩,hm,rfl⟩:=aE.mp hp;have:x∈scope.names.map (·.1):=by show L.names▸aE.mpr ⟨_,hm,rfl⟩
  clear cl l ok L hk hnd c1 c2 fr fs hC nC nl obj back nd hm hp;obtain⟨q,hq,rfl⟩:=aE.mp this;show cT.mp hok q hq
 .dsimp only at e
  split at e
  .show absurd e.symm (aF _)
  .show e
 .rcases L.mem hm with⟨f,f,f,e⟩|⟨f,e|e,f⟩<;>contradiction
 .apply Y;rcases L.mem hm with⟨f,n1,n2,f⟩|⟨h1,h2,h3⟩
  .show(hj.elim n1 n2).elim
  .obtain⟨c,cv,d1,r⟩:=ok.cel x k ov h3 h2;obtain⟨c',hc'⟩:=c2 x h1;obtain⟨d,hd⟩:=Ja hc';have:=back x d hd;obtain rfl:=bL (bP (eG d1) this);show⟨c,cv,hd,r⟩
 .apply @Cl.holds Y _ _;have:=ok.stk c hc
  induction c using Cl.casesOn with
  |val=>show this
  |prv a o=>show{if_pos (.inr (cX.mpr ⟨_,hc,rfl⟩)),this.2}
variable{cs:List Cl}
def lob(vs:List aL)(n:Nat):jh:={cls:=.type "list",data:=.seq vs.toArray n}
inductive Cm(F:Fx)(D:Dx)(mc:Loc)(t:List Cl)(acc:aK)(cs:List Cl)(xs:List V)(H:AH)(s:aW):Prop
 |mk(vs:List aL)(n:Nat)(P:PH)(hl:xs.length=vs.length)(ok:Ok F D mc (cs++.prv acc (lob vs n)::(Cl.vals xs vs++t)) H P s)
theorem VRs.of_cls{xs:List V}:∀{vs:List aL},xs.length=vs.length->(∀c∈Cl.vals xs vs,c.holds P₀ P)->VRs P xs vs:=by
 induction xs with
 |nil=>intro vs e h;rw[eD e.symm];show .nil
 |cons x xs ih=>intro vs e h;rcases vs with _|⟨v,vs⟩;show absurd e (gk _);show .cons (h _ (.head _)) (ih (cS e) λc hc=>h c (.tail _ hc))
theorem Cl.dm{xs:List V}:∀{vs:List aL},xs.length=vs.length->Cl.vals (xs++[v]) (vs++[x])=Cl.vals xs vs++[.val v x]:=by
 induction xs with
 |nil=>intro vs e;rw[eD e.symm];rfl
 |cons y xs ih=>intro vs e;rcases vs with _|⟨w,vs⟩;show absurd e (gk _);show congrArg (cW _) (ih (cS e))
theorem PX.no(hn:∀X H,¬ F.KX X H)(p:PX F D e s):False:=let ⟨_,_,_,_,_,k,_,_,_,_,_⟩:=p;hn _ _ k
theorem Cm.append{KL:List V->AH->Prop}(hn:∀X H,¬ F.KX X H)(hz:xs.length<=2^20)(h:WE F mc H elt λw H'=>KL (xs++[w]) H')(z:Cm F D mc t acc cs xs H s):
  A2 F.g.M D.A ((do let _ <- call (.builtin "list.append") [↑acc,<- ch elt D.env]) >>= λb=>again c) (λfin s'=>fin=.again c/\∃xs' H',KL xs' H'/\Cm F D mc t acc cs xs' H' s') (λb b=>False) s:=by
 apply Y;obtain⟨vs,n,P,hl,ok⟩:=z;show A0 (A0 (A4 (h D _ P s ok) (λx s₁ p=>?_) λb b p=>p.no hn));apply @A2 _ _ _ _ Y _ _;obtain⟨v,H1,P1,k,ok1⟩:=p;have ok2:=ok1.perm (t':=.prv acc (lob vs n)::(cs++.val v x::(Cl.vals xs vs++t))) ((perm_middle (a:=Cl.prv acc (lob vs n)) (l₁:=.val v x::cs)).trans (.cons _ (perm_middle.symm)));show A0 (lf <| wpAny_list_append_plain ({n,ok2.obj}) (λh' il' sb=>?_) (by simp only[aN,<- hl];show aC ‹_› (nle rfl)));apply @A2 _ _ _ _ _ _ Y;obtain⟨n',e⟩:=il';rw[jV]at e;have ok3:=ok2.pop.dw (n:=s₁.toks) (c:=lob (vs++[x]) n') ok2.apart e (Lk sb) (v:=.none) (y:=.none) rfl;show A1 (A1 {rfl,_,H1,k,vs++[x],n',_,by simp only[aV,aV,hl];rfl,ok3.pop.perm ?_});simp only[Cl.dm hl,aH];show(perm_middle (a:=Cl.prv acc _) (l₁:=cs)).symm.trans (.append_left cs (.cons _ (perm_middle (a:=Cl.val v x) (l₁:=Cl.vals xs vs)).symm))
inductive WTs(F:Fx)(m:Loc)(H:AH):List cR->(Bool->AH->Prop)->Prop
 |nil{KB}(h:KB true H):WTs F m H [] KB
 |one{c KB}(h:WT F m H c KB):WTs F m H [c] KB
theorem Cm.tests{KB:Bool->AH->Prop}(hn:∀X H,¬ F.KX X H)(z:Cm F D mc t acc cs xs H s)(h:WTs F mc H ifs KB)(hQ:∀ok s' H',KB ok H'->Cm F D mc t acc cs xs H' s'->Q ok s'):
  A2 F.g.M D.A (forIn ifs true λc r=>if r=true then do let ok <- fY c D.env (ch c D.env);pure (dK ok) else pure (dK r)) Q E s:=by
 apply Y;induction h using WTs.casesOn with
 |nil h=>show Hu (hQ _ _ _ h z)
 |one h=>
  obtain⟨vs,n,P,hl,ok⟩:=z;show Hv (A4 (h D _ P s ok) (λb s' z9=>by obtain⟨H',P',k,ok'⟩:=z9;show hQ _ _ _ k ⟨vs,n,P',hl,ok'⟩) λa a p=>(p.no hn).elim)
inductive Cp(F:Fx)(D:Dx)(mc:Loc)(t:List Cl)(acc:aK)(J:Nat->List V->AH->Prop)(sq:Sq)(I:aK)(k:Nat)(s:aW):Prop
 |mk(i:Nat)(xs:List V)(H:AH)(cs:List Cl)(j:J i xs H)(it:It sq i I cs)(z:Cm F D mc t acc cs xs H s)(hi:i<=sq.len)(e:k=sq.len+1-i)
theorem I9{pos p:ki}{ifs:List cR}{body:kh Fin}(hn:∀X H,¬ F.KX X H)(J:Nat->List V->AH->Prop)
  (hT:compTurn (.ListComp elt gens scope pos) depth ↑I ↑acc D.env=(do
   cQ p
   match <- kD ↑I with
   |none=>pure (.done .next)
   |some v=>
    lQ target ↑I v
    pF target D.env v
    let mut ok:=true
    for c in ifs do
     if ok then ok <- fY c D.env (ch c D.env)
    if ok then body else again (.compLoop (.ListComp elt gens scope pos) depth ↑I ↑acc D.env)))
  (ft:Fits sq target) (hst:∀i xs H',J i xs H'->sq.stays H')
  (step:∀i xs H' v,J i xs H'->sq.at i=some v->WG F mc H' target v λmc' H2=>(∀x k w,(x,k,some w)∈mc->(x,k,some w)∈mc')/\WTs F mc' H2 ifs λb H3=>
   bif b then ∀cs s,Cm F D mc' t acc cs xs H3 s->A2 F.g.M D.A body (λfin s'=>fin=.again (.compLoop (.ListComp elt gens scope pos) depth ↑I ↑acc D.env)/\∃xs' H',J (i+1) xs' H'/\Cm F D mc' t acc cs xs' H' s') (λf f=>False) s else J (i+1) xs H3)
  (fin:∀i xs H' s',J i xs H'->sq.at i=none->Cm F D mc t acc [] xs H' s'->R (.ok .next) s')
  (j:J 0 xs H) (it:It sq 0 I cs) (z:Cm F D mc t acc cs xs H s) :
  Ae F.g.M D.A (.compLoop (.ListComp elt gens scope pos) depth ↑I ↑acc D.env) R s:=by
 apply @Ae _ _ Y _ _;show La rfl rfl (Cp F D mc t acc J sq I) ?_ (sq.len+1) {0,xs,H,cs,j,it,z,bV _,rfl};rintro k s' ⟨i,xs,H',cs,j,it,⟨vs,n,P,hl,ok⟩,hi,rfl⟩;apply @A2 _ _ _ _ Y _ _;change A2 _ D.A ((compTurn (.ListComp elt gens scope pos) depth ↑I ↑acc D.env).onRaise (λx=>do hY x D.env;ij x)) _ _ s';show Dc ?_;apply @A2 _ _ _ _ _ Y _;rw[hT];have nm:=ok.nm;show A0 (A5 (A0 (it.next ok ok.d.a.quiet (hst _ _ _ j) ft {λe P3 s3 ok3=>A1 (fin _ _ _ _ j e ⟨vs,n,P3,hl,ok3⟩),λv e y s3 hlt=>A0 (hlt _ _ λP4 s4 cs' it' ok4=>?_)})));show A0 (A4 (step i xs H' v j e D _ P4 s4 y ok4) (λf s5 q=>?_) λf f p=>(p.no hn).elim);obtain⟨mc1,H1,P5,⟨hw,w⟩,ok5⟩:=q;have back:∀{xs' H'' s6},Cm F D mc1 t acc cs' xs' H'' s6->Cm F D mc t acc cs' xs' H'' s6:=λz9=>by apply Y;obtain⟨vs,n,P,hl,ok⟩:=z9;show{vs,n,P,hl,ok.wk nm hw}
 show A0 ((Cm.mk vs n P5 hl ok5).tests hn w λb s6 H6 k6 z6=>?_);clear ifs hn hT ft hst step z s' H' cs j it n P hl ok nm y s3 hlt P4 s4 ok4 s5 H1 P5 ok5 hw w;induction b using Bool.casesOn with
 |true=>
  show A4 (k6 _ _ z6) (λfin s7 q=>?_) λf f p=>p.elim;obtain⟨rfl,xs',H7,k7,z7⟩:=q;show{rfl,_,ji _ _ (k9 (Sq.c7 e)),i+1,xs',H7,cs',k7,it',back z7,(Sq.c7 e),rfl}
 |false=>show A1 {rfl,_,ji _ _ (k9 (Sq.c7 e)),i+1,xs,H6,cs',k6,it',back z6,(Sq.c7 e),rfl}
theorem Pq(hc:∀x∈scope.names,x.2 ≠ .cell)
  (hQ:Q {scope,locals:=s.heap.objs.size,globals,cells:=cl,qual,func:=none,code:=env.code,frame:=env.frame,builtins:=env.builtins} {s with heap:=s.heap.push {cls:=.type "dict",data:=.dict #[]}}) :
  A2 M A (iH scope globals cl [] qual none .none (some env)) Q E s:=by
 dsimp only [iH,Option.isSome_some,if_true]
 show A0 (Dv ?_);apply @A2 _ _ _ _ _ _ Y;rw[forIn_yield_id cl (λx hx c=>by
  obtain⟨name,kind⟩:=x;have:(kind==j8)=false:=by simpa using hc _ hx
  simp only[this,nJ,if_false])]
 show A0 (A1 (A0 (A1 (A1 hQ))))
theorem It.self(it:It sq i I cs)(ok:Ok F D m (cs++t) H P s)(h:Q ↑I s):A2 F.g.M A (jD ↑I) Q E s:=by
 apply Y;induction it using It.casesOn with
 |vals h'=>show lf <| wpAny_pyIter_listiter {_,ok.obj,h'} h
 |rng=>show lf <| wpAny_pyIter_rangeiter ok.obj h
 |rev hz hc hd=>show lf <| J4 {_,_,ok.obj,hc,hd} h
 |enum h'=>show lf <| wpAny_pyIter_enum ok.obj h
theorem Ok.outc(ok3:Ok F D m T H₀ P₃ s₃)(nC:P₃ C=none)(ha:acc∈Cl.addrs T)(ht:∀c∈t,c∈T)(hl:env.locals=C)
  (z:Cm F.cm {A,env,l,λa=>if a=C\/a∈Cl.addrs T then none else (P₃.set C (.frame λd=>none)) a,nms} mc t acc [] xs H' s'):∃P'' o,Ok F D m (.val (.list xs) ↑acc::.prv C o::t) H' P'' s'/\∃n,s'.heap.Ns C n:=by
 apply Y;obtain⟨vs,n,P',hlen,ok⟩:=z;have obj:∀a,a∈Cl.addrs T->D.P₀ a=none/\∃o,P₃ a=some (.obj o):=λa h=>by
  apply Y;obtain⟨c,hc,e⟩:=cX.mp h
  induction c using Cl.casesOn with
  |val=>contradiction
  |prv b o=>injection e with e;subst e;show{(ok3.stk _ hc).1,o,(ok3.stk _ hc).2}
 obtain⟨nsm,hC,d⟩:=ok.loc;rw[show(Dx.env {A,env,l,λa=>if a=C\/a∈Cl.addrs T then none else (P₃.set C (.frame λd=>none)) a,nms}).locals=C from hl]at hC;have ns:=(ok.q.prv C _ hC).2;obtain⟨o,es,ep,eo,ho⟩:=id ns;have eacc:=(ok.stk _ (.head _)).2;have ne:C≠acc:=λy=>by rw[y,eacc]at hC;show nomatch hC
 have r:=VRs.of_cls hlen λc hc=>ok.stk c (.tail _ (aU _ hc));have f1:Fro P' (P'.set acc (.fro (.list xs))):=.obj eacc;have q1:=ok.q.bf (t:=s'.toks) (p':=.fro (.list xs)) eacc f1 (lK ..) {vs,{n,(ok.q.prv _ _ eacc).2},r.mono f1} λc h=>PO.noConfusion h;have hC1:(P'.set acc (.fro (.list xs))) C=some (.frame nsm):=(if_neg ne).trans hC;have f2:Fro (P'.set acc (.fro (.list xs))) ((P'.set acc (.fro (.list xs))).set C (.obj o)):=.turn hC1 {λd q=>(by contradiction),λd q=>(by contradiction)};have q2:=q1.bf (t:=s'.toks) (p':=.obj o) hC1 f2 (lK ..) eo λc h=>PO.noConfusion h;have keep:∀b p,P' b=some p->b≠acc->b≠C->((P'.set acc (.fro (.list xs))).set C (.obj o)) b=some p:=λb p e n1 n2=>(if_neg n2).trans ((if_neg n1).trans e);have old:∀b p,P₃ b=some p->b∉Cl.addrs T->((P'.set acc (.fro (.list xs))).set C (.obj o)) b=some p:=λb p e h=>by
  have nc:b≠C:=λy=>by rw[y,nC]at e;show absurd e.symm (aF _)
  show keep b p (ok.sub b p ((if_neg λq=>q.elim nc h).trans ((if_neg nc).trans e))) (λy=>h (y▸ha)) nc
 have ap:(acc::Cl.addrs (Cl.vals xs vs++t)).Nodup:=ok.ap;rw[Cl.b7]at ap;obtain⟨a1,a2⟩:=bX.mp ap;have ct:=λa ob h=>(ok.stk (.prv a ob) (.tail _ (aG _ h))).2;have nCt:C∉Cl.addrs t:=λh=>by
  obtain⟨c,hc,e⟩:=cX.mp h
  induction c using Cl.casesOn with
  |val=>contradiction
  |prv b o=>rcases e;rw[ct _ _ hc]at hC;show nomatch hC
 show{_,o,ok3.back (λb p e h=>old b p e λhm=>?_) (λb p e=>old b p (ok3.sub _ _ e) λhm=>?_) q2 (λc hc=>?_) (bX.mpr ⟨nCt,a2⟩),nsm,ns}
 .obtain⟨d,ob,e'⟩:=obj _ hm;rw[e]at e';injection e' with e';subst e';show h ob rfl
 .rw[(obj _ hm).1]at e;contradiction
 .apply Y;rcases aS.mp hc with e8|hc
  .subst e8;show{acc,rfl,(if_neg (fQ ne)).trans (if_pos rfl)}
  .skip;rcases aS.mp hc with e8|hc
   .subst e8;show{?_,if_pos rfl}
    induction e:D.P₀ C using Option.casesOn with
    |none=>rfl
    |some p=>rw[ok3.sub _ _ e]at nC;show absurd nC (aF _)
   .skip
    induction c using Cl.casesOn with
    |val v y=>show VR.mono (f1.trans f2) (ok.stk (.val v y) (.tail _ (aG _ hc)))
    |prv a ob=>
     show{(ok3.stk _ (ht _ hc)).1,keep _ _ (ct a ob hc) (λy=>?_) λy=>?_}
     .show a1 (y▸cX (f:=Cl.addr).mpr ⟨_,hc,rfl⟩)
     .show nCt (y▸cX (f:=Cl.addr).mpr ⟨_,hc,rfl⟩)
variable{KL:List V->AH->Prop}{KR:V->AH->Prop}{KN:Loc->AH->Prop}
structure Oa(m:Loc)(scope:nE)(mc:Loc):Prop where
 l:CompL m scope.names mc
 kind:scope.kind=.function
 nd:Fv (scope.names.map (·.1))=true
 ok:scope.names.all (λp=>nmOk p.1)=true
def WCo(F:Fx)(m:Loc)(H:AH)(e iter:cR)(scope:nE)(KL:List V->AH->Prop):Prop:=
 ∀D t P s p use(Q:aL->aW->Prop),Ok F D m t H P s->(∀acc C o xs H' P' s',KL xs H'->Ok F D m (.val (.list xs) ↑acc::.prv C o::t) H' P' s'->(∃n,s'.heap.Ns C n)->Hc F.g.M D.A (PX F D) use Q ↑acc C (.ok .next) s') ->
  A2 F.g.M D.A (mZ e scope D.env p (newList []) false (ch iter D.env) use) Q (PX F D) s
theorem WCo.enter(L:Oa m scope mc)(hs:∀env x,bN iter env x=pure x)(h:WI F m H iter J)
  (loop:∀D sq H1 acc I cs t s R,J sq H1->It sq 0 I cs->Cm F.cm D mc t acc cs [] H1 s->(∀xs H' s',KL xs H'->Cm F.cm D mc t acc [] xs H' s'->R (.ok .next) s') ->
   Ae F.g.M D.A (.compLoop (.ListComp elt ({target,iter,ifs,0}::rest) scope pos) 0 ↑I ↑acc D.env) R s):WCo F m H (.ListComp elt ({target,iter,ifs,0}::rest) scope pos) iter scope KL:=by
 apply @WCo _ _ _ Y _ _ _;intro D t P s p use Q ok hQ;apply Y;have hcl:∀x,(x,eF)∈scope.names->∃c,D.env.cells.lookup x=some c:=λx hx=>by
  apply Y;obtain⟨j,ov,hj,hm⟩:=(L.l.kind hx).2 rfl;obtain⟨c,cv,e,f⟩:=ok.cel x j ov hm hj;show⟨c,e⟩
 obtain⟨cl,h1,c1,f,c2⟩:=J9 (env:=D.env) (cs:=[]) (λf h=>absurd h aD) hcl;have hclos:kH scope D.env=pure cl:=by
  unfold kH;rw[bind_pure];show h1
 show Do (cl:=cl) rfl (hs D.env) hclos L.kind (λx hx e=>Dw (Ef L.nd) ((e▸hx)))
  (A4 (h D t P s ok) (λx s₁ h₁=>A4 h₁ (λit s₂⟨sq,H1,P1,I,cs,e,j,itr,ok2⟩=>?_) λf f p=>p) λf f p=>p)
 subst e;show lf <| wpAny_newList (Pq (λx hx e=>(L.l.kind (k:=x.2) hx).1 e) ?_) (by simp only[szl];simp);apply Y;have ok3:=ok2.make (o:=lob [] 0) (n:=s₂.toks) rfl;obtain⟨e1,e2,e0⟩:=ok3.q.fresh (Ak (bC _));obtain⟨ok4,nC,f⟩:=(ok3.grow (n:=s₂.toks) (Bd {cls:=.type "dict",data:=.dict #[]})).take (p:=.frame λf=>none) e0 e1 e2 (pq _ _);obtain⟨l,fr,fs⟩:=ok3.d.fk.frs ok3.sub ((ok3.loc).elim λn y0=>y0.elim λe _=>⟨n,e⟩);have inn:=ok4.inn (cl:=cl) L.l L.kind L.nd L.ok c1 c2 fr (λe he=>(fs e he).elim λk y0=>y0.elim λL y1=>y1.elim λn y2=>y2.elim λa b=>{k,L,n,a,PH.new e2 _ _ b}) (if_pos rfl) nC λe he y=>by
  obtain⟨f,L,n,a,b⟩:=fs e he;simp only[y]at a;injection a with a;subst a;rw[e2]at b;show absurd b.symm (aF _)
 have z:Cm F.cm _ mc t s₂.heap.objs.size cs [] H1 _:={[],0,_,rfl,inn.perm (perm_middle (a:=Cl.prv _ _) (l₁:=cs)).symm};have go:=loop _ sq H1 _ I cs t _ (λr s'=>Hc F.g.M D.A (PX F D) use Q ↑s₂.heap.objs.size _ r s') j itr z λxs H' s' k z=>by
  apply Y;obtain⟨P'',o,ok',ns⟩:=ok3.outc e2 (.head _) (λc hc=>.tail _ (aG _ hc)) rfl z;show hQ _ _ o xs H' P'' s' k ok' ns
 show E7 go (itr.self (ok4.perm (perm_middle (a:=Cl.prv _ _) (l₁:=cs)).symm) go)
variable{elt target iter:cR}{ifs:List cR}{rest:List Comprehension}{scope:nE}{pos np p:ki}{y:bY}{ov:Option V}
theorem WE.co(h:WCo F m H (.ListComp elt ({target,iter,ifs,0}::rest) scope pos) iter scope λxs H'=>K (.list xs) H'):WE F m H (.ListComp elt ({target,iter,ifs,0}::rest) scope pos) K:=by
 intro D t P s ok;apply @A2 _ _ _ _ Y _ _;show h D t P s _ .none _ ok λacc C o xs H' P' s' k ok' z9=>z9.elim λn ns=>{n,ns,λh' sb=>?_};show{_,H',_,k,(ok'.perm (nh ..)).pop.dc (n:=s'.toks) (ok'.perm (nh ..)).apart (Lk sb)}
theorem Ob(hk:env.scope.kind=.function):iA (.ListComp elt ({target,iter,ifs,0}::rest) scope pos) (some (.Name y np)) line env =
  pure (env.kindOf y==some .local&&np.line==pos.line&&!(scope.names.any λ(n,k)=>n==y&&(k==.local||k==.cell))):=by
 change pure (env.blockKind==.function&&env.kindOf y==some .local&&np.line==pos.line&&!(scope.names.any λ(n,k)=>n==y&&(k==.local||k==.cell)))=_;rw[show env.blockKind=.function by unfold pX;rw[hk];rfl];rfl
theorem WS1.coCell(hm:(y,.cell,ov)∈m)(hco:F.co=false)(hx:∀k w,(y,k,w)∉F.keep)(h:WCo F m H (.ListComp elt ({target,iter,ifs,0}::rest) scope pos) iter scope λxs H'=>∃m',SetAt m y .cell (.list xs) m'/\KN m' H'):
  WS1 F KR m H (.Assign [.Name y np] (.ListComp elt ({target,iter,ifs,0}::rest) scope pos) p) KN:=by
 intro D t P s ok;apply @A2 _ _ _ _ Y _ _;show Ce ((WE.co (K:=λv H'=>∃m',SetAt m y .cell v m'/\KN m' H') h).seq ok λx s₁ v H₁ P₁ k ok1=>?_) (by delta rD;simp only[Ob ok.d.kind,((ok.kd hm).1)];rfl) rfl;apply Y;obtain⟨m',hs,kn⟩:=k;show A4 (WG.name (p:=np) hs (.inr ⟨rfl,hco⟩) hx kn D t P₁ s₁ x ok1) (λb s₂ z9=>by obtain⟨m₂,H₂,P₂,k₂,ok2⟩:=z9;show .next m₂ H₂ P₂ k₂ ok2) λb b p=>p
theorem WS1.co(hm:(y,.local,ov)∈m)(hl:(np.line==pos.line)=true)(hn:(scope.names.any λ(n,k)=>n==y&&(k==.local||k==.cell))=false)(hx:∀k w,(y,k,w)∉F.keep)
  (h:WCo F m H (.ListComp elt ({target,iter,ifs,0}::rest) scope pos) iter scope λxs H'=>∃m',SetAt m y .local (.list xs) m'/\KN m' H') :
  WS1 F KR m H (.Assign [.Name y np] (.ListComp elt ({target,iter,ifs,0}::rest) scope pos) p) KN:=by
 intro D t P s ok;have hk:=(ok.kd hm).1;rw[exec_Assign_Name_used _ _ _ _ (by rw[Ob ok.d.kind,hk,hl,hn];rfl)];show A0 (A5 (A0 ?_));apply @A2 _ _ _ _ Y _ _;show A0 (A4 (h D t P s _ (some (pF (.Name y np) D.env)) (λb s'=>PS F D t KR KN .next s') ok λacc C o xs H' P' s'⟨m',hs,kn⟩ok'⟨n,ns⟩=>?_) (λb s' hq=>A1 (A1 hq)) λb b e=>e);apply @Hc _ _ _ _ Y _ _ _ _;show A4 (WG.name (p:=np) hs (.inl rfl) hx (KN:=λm'' H''=>m''=m'/\H''=H') ⟨rfl,rfl⟩ D _ P' s' _ ok') (λb s₂⟨m₂,H₂,P₂,k₂,ok2⟩=>?_) λb b p=>p;clear hm hl hn hx h P s ok hk hs b;apply Y;obtain⟨rfl,rfl⟩:=k₂;obtain⟨ob,es,ep,e,r⟩:=ns;have:=ok'.pop.obj;obtain rfl:=bL (bP (eG e) this);show{n,{_,es,ep,ok2.obj,r},λh' sb=>.next _ _ _ kn (ok2.pop.dc (n:=s₂.toks) ok2.apart (Lk sb))}
theorem WG.mono(h:WG F m H tg v KN)(n:∀m H,KN m H->KN' m H):WG F m H tg v KN':=λD t P s x ok=>A4 (h D t P s x ok) (λa a z9=>by obtain⟨m',H',P',k,ok'⟩:=z9;show{m',H',P',n _ _ k,ok'}) λa a p=>p
theorem WTs.mono{KB KB':Bool->AH->Prop}(h:WTs F m H ifs KB)(n:∀b H,KB b H->KB' b H):WTs F m H ifs KB':=by
 induction h using WTs.casesOn with
 |nil h=>show .nil (n _ _ h)
 |one h=>show .one λD t P s ok=>A4 (h D t P s ok) (λa a z9=>by obtain⟨H',P',k,ok'⟩:=z9;show{H',P',n _ _ k,ok'}) λa a p=>p
noncomputable abbrev Kn (m m':Loc):Prop:=∀x k w,(x,k,some w)∈m->(x,k,some w)∈m'
theorem WCo.one(J:Sq->Nat->List V->AH->Prop)(L:Oa m scope mc)(hs:∀env x,bN iter env x=pure x)(h:WI F m H iter λsq H1=>Fits sq target/\J sq 0 [] H1)(hst:∀sq i xs H',J sq i xs H'->sq.stays H'/\xs.length<=2^20)
  (step:∀sq i xs H' v,J sq i xs H'->sq.at i=some v->WG F.cm mc H' target v λmc' H2=>Kn mc mc'/\WTs F.cm mc' H2 ifs λb H3=>bif b then WE F.cm mc' H3 elt λw H4=>J sq (i+1) (xs++[w]) H4 else J sq (i+1) xs H3)
  (fin:∀sq i xs H',J sq i xs H'->sq.at i=none->KL xs H'):WCo F m H (.ListComp elt [{target,iter,ifs,0}] scope pos) iter scope KL:=by
 show WCo.enter L hs h λD sq H1 acc I cs t s R⟨ft,j⟩itr z hR=>?_;show I9 (F:=F.cm) (body:=(do let _ <- call (.builtin "list.append") [↑acc,<- ch elt D.env]) >>= λc=>again (.compLoop (.ListComp elt [{target,iter,ifs,0}] scope pos) 0 ↑I ↑acc D.env)) (λc c h=>h) (J sq) rfl ft (λi xs H' j=>(hst _ _ _ _ j).1) (λi xs H' v j e=>?_) (λi xs H' s' j e z=>hR xs H' s' (fin _ _ _ _ j e) z) j itr z;apply @WG _ _ _ _ _ Y;show(step sq i xs H' v j e).mono λm2 H2 z9=>z9.elim λk1 k2=>{k1,k2.mono λb H3 k3=>?_};apply @cond _ _ Y _;induction b using Bool.casesOn with
 |true=>show λcs s z=>z.append (λc c h=>h) (hst _ _ _ _ j).2 k3
 |false=>show k3
theorem WCo.two(J:Sq->Nat->List V->AH->Prop)(J1:Sq->Nat->Sq->Nat->List V->AH->Prop)(L:Oa m scope mc)(hs:∀env x,bN it0 env x=pure x)(hs1:∀env x,bN it1 env x=pure x)
  (h:WI F m H it0 λsq H1=>Fits sq t0/\J sq 0 [] H1) (hst:∀sq i xs H',J sq i xs H'->sq.stays H') (hst1:∀sq i sq1 j xs H',J1 sq i sq1 j xs H'->sq1.stays H'/\xs.length<=2^20)
  (step:∀sq i xs H' v,J sq i xs H'->sq.at i=some v->WG F.cm mc H' t0 v λmc' H2=>Kn mc mc'/\WI F.cm mc' H2 it1 (λsq1 H3=>Fits sq1 t1/\J1 sq i sq1 0 xs H3) /\
   ∀sq1 j xs H3 v,J1 sq i sq1 j xs H3->sq1.at j=some v->WG F.cm mc' H3 t1 v λmc'' H4=>Kn mc' mc''/\WE F.cm mc'' H4 elt λw H5=>J1 sq i sq1 (j+1) (xs++[w]) H5)
  (mid:∀sq i sq1 j xs H',J1 sq i sq1 j xs H'->sq1.at j=none->J sq (i+1) xs H')
  (fin:∀sq i xs H',J sq i xs H'->sq.at i=none->KL xs H'):WCo F m H (.ListComp elt [{t0,it0,[],0},{t1,it1,[],0}] scope pos) it0 scope KL:=by
 show WCo.enter L hs h λD sq H1 acc I cs t s R⟨ft,j⟩itr z hR=>?_;show I9 (F:=F.cm) (body:=(do
   let x <- ch it1 D.env
   cQ it1.pos
   let x <- bN it1 D.env x;let _ <- runOwn (.compStart (.ListComp elt [{t0,it0,[],0},{t1,it1,[],0}] scope pos) 1 (<- cN [x] (jD x)) ↑acc D.env) D.env
   again (.compLoop (.ListComp elt [{t0,it0,[],0},{t1,it1,[],0}] scope pos) 0 ↑I ↑acc D.env))) (λb b h=>h) (J sq) rfl ft (λi xs H' j=>hst _ _ _ _ j) (λi xs H' v j e=>?_) (λi xs H' s' j e z=>hR xs H' s' (fin _ _ _ _ j e) z) j itr z
 show(step sq i xs H' v j e).mono λm2 H2 z9=>z9.elim λk1 y0=>y0.elim λk2 k3=>{k1,.nil λcs s z=>?_};obtain⟨vs,n,P,hl,ok⟩:=z;show A0 (A4 (k2 D _ P s ok) (λx s₁ h₁=>A0 (A5 (A0 (Cc (hs1 D.env x) (A0 (A3 (A4 h₁ (λit s₂ q=>?_) λb b p=>p.no λb b h=>h))))))) λb b p=>p.no λb b h=>h);obtain⟨sq1,H5,P5,I1,cs1,rfl,⟨ft1,j1⟩,it1',ok5⟩:=q;have mv:∀(a:Cl)(l:List Cl),(cs++a::(l++t)).Perm (a::(l++(cs++t))):=λa l=>
  perm_middle.trans (.cons _ (by rw[<- aH,<- aH];show .append_right t fG))
 have am:D.A.mark none=D.A:=by
  have:=ok.d.a.quiet;obtain⟨A,b,b,b,b⟩:=D;rcases A;simp only[Around.mark]at *;clear L hs hs1 h hst hst1 step mid fin acc I t R itr ft H' v j e k1 k2 k3 cs s vs n P hl x s₁ s₂ sq1 H5 P5 I1 cs1 it1' ft1 j1 mv b z hR ok h₁ ok5;subst this;rfl
 show A0 (Dh ?_ λx=>absurd x.symm (aF _));show(let K2:=_;let K3:=_;(?_:@Ae _ _ K2 K3 _));have go:Ae F.g.M D.A (.compLoop (.ListComp elt [{t0,it0,[],0},{t1,it1,[],0}] scope pos) 1 ↑I1 ↑acc D.env) (λr s'=>match r with
   |.ok f=>A2 F.g.M D.A (again (.compLoop (.ListComp elt [{t0,it0,[],0},{t1,it1,[],0}] scope pos) 0 ↑I ↑acc D.env)) (λfin s'=>fin=.again (.compLoop (.ListComp elt [{t0,it0,[],0},{t1,it1,[],0}] scope pos) 0 ↑I ↑acc D.env)/\∃xs' H',J sq (i+1) xs' H'/\Cm F.cm D m2 t acc cs xs' H' s') (λb b=>False) s'
   |.error e=>iI F.g.M D.A D.env (λb b=>False) e s') s₂:=by
  apply @Ae _ _ _ Y _;show I9 (F:=F.cm) (mc:=m2) (t:=cs++t) (p:=it1.pos) (ifs:=[]) (body:=(do let _ <- call (.builtin "list.append") [↑acc,<- ch elt D.env]) >>= λb=>again (.compLoop (.ListComp elt [{t0,it0,[],0},{t1,it1,[],0}] scope pos) 1 ↑I1 ↑acc D.env)) (λb b h=>h) (J1 sq i sq1) rfl ft1 (λj xs H' k=>(hst1 _ _ _ _ _ _ k).1) (λj xs H' v k e=>?_) (λj xs H' s' k e z=>?_) j1 it1' {vs,n,P5,hl,ok5.perm (.append_left cs1 (mv _ _))}
  .apply @WG _ _ _ _ _ Y;show(k3 sq1 j xs H' v k e).mono λm3 H3 z9=>z9.elim λq1 q2=>{q1,.nil λcs s z=>z.append (λb b h=>h) (hst1 _ _ _ _ _ _ k).2 q2}
  .obtain⟨vs,n,P,hl,ok⟩:=z;show A1 {rfl,xs,H',mid _ _ _ _ _ _ k e,vs,n,P,hl,ok.perm (mv _ _).symm}
 show Ew go (it1'.self ok5 go)
end
section
theorem ff{p:Prop}(h:false=true):p:=aR h
theorem fn{p:Prop}{α:Type}{a:α}(h:none=some a):p:=mQ rfl (heq_of_eq h)
theorem lt2(h:i<2):i=0\/i=1:=(gw.mp h).imp Nat.lt_one_iff.mp id
theorem lt3(h:i<3):i=0\/i=1\/i=2:=(gw.mp h).elim (λh=>(lt2 h).imp id .inl) λh=>.inr (.inr h)
theorem lt4(h:i<4):i=0\/i=1\/i=2\/i=3:=(gw.mp h).elim (λh=>(lt3 h).imp id (.imp id .inl)) λh=>.inr (.inr (.inr h))
theorem tn{a b:Int}(h:0<=a/\a<b):a.toNat<b.toNat:=(Int.toNat_lt_toNat (gB h.1 h.2)).mpr h.2
theorem sub1(h:j<n):n-j=n-(j+1)+1:=(eP (og h)).symm
theorem lenS{α:Type}{l:List α}(h:l.length=n+1):∃a r,l=a::r/\r.length=n:=by
 rcases l with _|⟨a,r⟩
 .show absurd h.symm (gk _)
 .show{a,r,rfl,cS h}
theorem len2{α:Type}{l:List α}(h:l.length=2):∃a b,l=[a,b]:=by
 obtain⟨a,r,e,h⟩:=lenS h;obtain⟨b,q,e2,h⟩:=lenS h;rw[e,e2,eD h];show⟨_,_,rfl⟩
theorem len6{α:Type}{l:List α}(h:l.length=6):∃a b c d e f,l=[a,b,c,d,e,f]:=by
 obtain⟨a,r,e,h⟩:=lenS h;obtain⟨b,q,e2,h⟩:=lenS h;obtain⟨c,p,e3,h⟩:=lenS h;obtain⟨d,o,e4,h⟩:=lenS h;obtain⟨x,y,e5⟩:=len2 h;rw[e,e2,e3,e4,e5];show⟨_,_,_,_,_,_,rfl⟩
def lc:List (bY×aY)->List (Option V)->Loc
 |[],_=>[]
 |(x,k)::r,[]=>(x,k,none)::lc r []
 |(x,k)::r,v::vs=>(x,k,v)::lc r vs
def gs:List (Option V)->Nat->Option V
 |[],_=>none
 |v::_,0=>v
 |_::r,i+1=>gs r i
def ss:List (Option V)->Nat->V->List (Option V)
 |[],0,v=>[some v]
 |[],i+1,v=>none::ss [] i v
 |_::r,0,v=>some v::r
 |u::r,i+1,v=>u::ss r i v
inductive Ex where
 |loc(i:Nat)|con (v:V)|bin (op:iN) (a b:Ex)|un (op:UnaryOp) (a:Ex)|cmp (op:pY) (a b:Ex)|chain (op op2:pY) (a b c:Ex)|and (a b:Ex)|or (a b:Ex)|not (a:Ex)|ife (c a b:Ex)
 |attr(a:Ex)(n:bY)|sub (a i:Ex)|slice (a:Ex) (lo hi st:Option Ex)|call (f:aL) (args:List Ex)|af (a:Ex) (n:bY) (args:List Ex)|tup (l:List Ex)|list (l:List Ex)|b6|raw (e:cR)|bad
def Vp:iN->Int->Int->Option Int
 |.Add,i,j=>some (i+j)
 |.Sub,i,j=>some (i-j)
 |_,_,_=>none
def Vq:pY->Int->Int->Option Bool
 |.Lt,i,j=>some (decide (i<j))
 |.LtE,i,j=>some (decide (i<=j))
 |.Gt,i,j=>some (decide (j<i))
 |.GtE,i,j=>some (decide (j<=i))
 |.Eq,i,j=>some (i==j)
 |.NotEq,i,j=>some (i !=j)
 |_,_,_=>none
def Re(v w:V):Option (Int×Int):=match v with
 |.int i=>match w with
  |.int j=>some (i,j)
  |_=>none
 |_=>none
section
variable(F:Fx)
def binV(op:iN)(v w:V)(H:AH)(K:V->AH->Prop):Prop:=match (Re v w).bind λp=>Vp op p.1 p.2 with
 |some i=>K (.int i) H
 |none=>W2 F (eL op) v w H K
def dk(op:pY)(v w:V)(H:AH)(K:V->AH->Prop):Prop:=match (Re v w).bind λp=>Vq op p.1 p.2 with
 |some b=>K (.bool b) H
 |none=>W2 F (bU op) v w H K
inductive Aa(H:AH)(v:V)(n:bY)(K:V->AH->Prop):Prop
 |mk(a c d:aK)(mm:List (bY×V))(w:V)(e:v=.ref a)(e1:H a=some (.inst c (some d)))(e2:H d=some (.aa mm))(C:ClsF c)(T:AtF c n)(g:lget mm n=some w)(k:K w H)
inductive Av(H:AH)(v:V)(n:bY)(k:aL->Prop):Prop
 |inst(a c d f:aK)(mm:List (bY×V))(e:v=.ref a)(e1:H a=some (.inst c (some d)))(e2:H d=some (.aa mm))(C:ClsF c)(T:MtF c n f)(g:lget mm n=none)(k:k ↑f)
 |blt(id:String)(g:Gm F H v n id)(k:k (.builtin id))
def evL(f:Ex->AH->(V->AH->Prop)->Prop):List Ex->AH->(List V->AH->Prop)->Prop
 |[],H,K=>K [] H
 |e::r,H,K=>f e H λv H1=>evL f r H1 λvs H2=>K (v::vs) H2
def evP(f:Ex->AH->(V->AH->Prop)->Prop):Option Ex->AH->(Option Int->AH->Prop)->Prop
 |none,H,K=>K none H
 |some e,H,K=>f e H λv H1=>match v with
  |.int i=>K (some i) H1
  |_=>False
inductive SliceP(H:AH)(o:V)(l u c:Option Int)(K:V->AH->Prop):Prop
 |list(ow:Option aK)(xs:List V)(as:AsL H o ow xs)(hc:c≠some 0)(hz:xs.length<=2^20)(k:K (.list (H0 xs l u c)) H)
inductive Wm(H:AH)(vs:List V)(K:V->AH->Prop):Prop
 |data(k:K (.list vs) H)
 |own(k:∀a,H a=none->K ↑a (H.set a (.list vs)))
inductive Wn(H:AH)(K:V->AH->Prop):Prop
 |data(v:V)(hv:v=.ae []\/v=.aa [])(k:K v H)
 |own(o:AObj)(ho:o=.ae []\/o=.aa [])(k:∀a,H a=none->K ↑a (H.set a o))
def evB(K:Bool->AH->Prop)(v:V)(H:AH):Prop:=match v with
 |.bool b=>K b H
 |_=>False
variable(ns:List (bY×aY))
def ev:Nat->Ex->List (Option V)->AH->(V->AH->Prop)->Prop
 |0,_,_,_,_=>False
 |n+1,e,sl,H,K=>match e with
  |.loc i=>match gs sl i with
   |some v=>K v H
   |none=>False
  |.con v=>K v H
  |.bin op a b=>ev n a sl H λv H1=>ev n b sl H1 λw H2=>binV F op v w H2 K
  |.un op a=>ev n a sl H λv H1=>W1 F (pN op) v H1 K
  |.cmp op a b=>ev n a sl H λv H1=>ev n b sl H1 λw H2=>dk F op v w H2 K
  |.chain op op2 a b c=>ev n a sl H λv H1=>ev n b sl H1 λw H2=>dk F op v w H2 (evB λt H3=>bif t then ev n c sl H3 λu H4=>dk F op2 w u H4 K else K (.bool false) H3)
  |.and a b=>ev n a sl H (evB λt H1=>bif t then ev n b sl H1 K else K (.bool false) H1)
  |.or a b=>ev n a sl H (evB λt H1=>bif t then K (.bool true) H1 else ev n b sl H1 K)
  |.not a=>ev n a sl H (evB λt H1=>K (.bool (!t)) H1)
  |.ife c a b=>ev n c sl H (evB λt H1=>bif t then ev n a sl H1 K else ev n b sl H1 K)
  |.attr a x=>ev n a sl H λv H1=>Aa H1 v x K
  |.sub a i=>ev n a sl H λv H1=>ev n i sl H1 λw H2=>G2 F v w H2 K
  |.slice a lo hi st=>ev n a sl H λv H1=>evP (λe=>ev n e sl) lo H1 λl H2=>evP (λe=>ev n e sl) hi H2 λu H3=>evP (λe=>ev n e sl) st H3 λc H4=>SliceP H4 v l u c K
  |.call f args=>evL (λe=>ev n e sl) args H λvs H1=>WC F f vs H1 K
  |.af a x args=>ev n a sl H λv H1=>Av F H1 v x λg=>evL (λe=>ev n e sl) args H1 λvs H2=>WC F g (v::vs) H2 K
  |.tup l=>evL (λe=>ev n e sl) l H λvs H1=>vs.length<=2^20/\K (.tup vs) H1
  |.list l=>evL (λe=>ev n e sl) l H λvs H1=>vs.length<=2^20/\Wm H1 vs K
  |.b6=>Wn H K
  |.raw e=>WE F (lc ns sl) H e K
  |.bad=>False
end
def nix:List (bY×aY)->bY->Option (Nat×aY)
 |[],_=>none
 |(y,k)::r,x=>if y=x then some (0,k) else (nix r x).map λp=>(p.1+1,p.2)
def Wo:aY->Bool
 |.local=>true
 |.cell=>true
 |.free=>true
 |_=>false
section
variable(F:Fx)(ns:List (bY×aY))
structure Gt where
 val:List (bY×V)
 fn:List (bY×aK)
 blt:List (bY×aL)
def bh{α:Type}:List (bY×α)->bY->Option α
 |[],_=>none
 |(y,v)::r,x=>if y=x then some v else bh r x
theorem Dj{α:Type}{x:bY}{v:α}{l:List (bY×α)}(h:bh l x=some v):(x,v)∈l:=by
 induction l with
 |nil=>show fn h
 |cons p r ih=>
  rcases bB (p.1=x) with e|e
  .rw[show bh (p::r) x=some p.2 from if_pos e]at h;injection h with h;rw[<- h,<- e];show .head _
  .rw[show bh (p::r) x=bh r x from if_neg e]at h;show .tail _ (ih h)
structure GtOk(G:Gt):Prop where
 val:∀p∈G.val,∃c,Ff p.1 c/\∀P,VR P p.2 c
 fn:∀p∈G.fn,Ff p.1 ↑p.2/\∀P,mn (Am P) ↑p.2=true
 blt:∀p∈G.blt,BltF p.1 p.2
variable(G:Gt)
theorem Ah{ns:List (bY×aY)}:∀{sl:List (Option V)}{i:Nat},nix ns x=some (i,k)->(x,k,gs sl i)∈lc ns sl:=by
 induction ns with
 |nil=>intro sl i h;show fn h
 |cons q r ih=>
  intro sl i h;obtain⟨y,j⟩:=q;rcases bB (y=x) with e|e
  .rw[show nix ((y,j)::r) x=some (0,j) from if_pos e]at h;injection h with h;injection h with h e8;subst h;subst e8;subst e;rcases sl<;>show .head _
  .rw[show nix ((y,j)::r) x=(nix r x).map λp=>(p.1+1,p.2) from if_neg e]at h;obtain⟨⟨i',k'⟩,h1,h2⟩:=bF.mp h;clear h;injection h2 with h2 e8;subst h2;subst e8;rcases sl with _|⟨u,sl⟩
   .show .tail _ (show(x,k',gs [] i')∈lc r [] from ih h1)
   .show .tail _ (ih h1)
end
set_option backward.match.sparseCases false
set_option tactic.hygienic true
section
variable(ns:List (bY×aY))(G:Gt)
def trB(op:rC):List Ex->Ex
 |[]=>.bad
 |[x]=>x
 |x::r=>match op with
  |.And=>.and x (trB op r)
  |.Or=>.or x (trB op r)
end
variable{F:Fx}{ns:List (bY×aY)}{G:Gt}{sl:List (Option V)}{H:AH}{K:V->AH->Prop}
theorem U8(h:Vp op i j=some k)(hk:K (.int k) H):W2 F (eL op) (.int i) (.int j) H K:=by
 apply Y;induction op using PySem.Operator.casesOn with
 |Add=>injection h with h;subst h;show .add hk
 |Sub=>injection h with h;subst h;show .sub hk
 |_=>show fn h
theorem U9(h:Vq op i j=some b)(hk:K (.bool b) H):W2 F (bU op) (.int i) (.int j) H K:=by
 apply Y;induction op using PySem.CmpOp.casesOn with
 |Lt=>injection h with h;subst h;show .lt hk
 |LtE=>injection h with h;subst h;show .le hk
 |Gt=>injection h with h;subst h;show .gt hk
 |GtE=>injection h with h;subst h;show .ge hk
 |Eq=>injection h with h;subst h;show .eq hk
 |NotEq=>injection h with h;subst h;show .ne hk
 |_=>show fn h
theorem Ke(h:Re v w=some p):v=.int p.1/\w=.int p.2:=by
 apply Y;induction v using V.casesOn with
 |int i=>induction w using V.casesOn with
  |int j=>injection h with h;subst h;show⟨rfl,rfl⟩
  |_=>show fn h
 |_=>show fn h
theorem binV_w(h:binV F op v w H K):W2 F (eL op) v w H K:=by
 unfold binV at h;split at h
 .next i e=>
  obtain⟨p,e1,e2⟩:=lB.mp e;clear e;obtain⟨rfl,rfl⟩:=Ke e1;show U8 e2 h
 .show h
theorem Jb(h:dk F op v w H K):W2 F (bU op) v w H K:=by
 unfold dk at h;split at h
 .next i e=>
  obtain⟨p,e1,e2⟩:=lB.mp e;clear e;obtain⟨rfl,rfl⟩:=Ke e1;show U9 e2 h
 .show h
theorem W2.mono(h:W2 F f v w H K)(n:∀v H,K v H->K' v H):W2 F f v w H K':=λD m t P s x y ok=>A4 (h D m t P s x y ok) (λa a z9=>by obtain⟨v,H',P',k,ok'⟩:=z9;show{v,H',P',n v H' k,ok'}) λa a p=>p
theorem M7:∀v H,evB KB' v H->KB KB' v H:=λv H h=>by
 induction v using V.casesOn with
 |bool b=>show⟨b,rfl,h⟩
 |_=>show h.elim
theorem WE.g6(hb:∀env w,fU o x env w=w)(h:WE F m H o λv H1=>Aa H1 v x K):WE F m H (.Attribute o x p) K:=
 λD t P s ok=>Iu (h.seq ok λy s1 v H1 P1 k ok1=>by
  apply @A2 _ _ _ _ Y _ _;obtain⟨a,c,d,mm,w,rfl,e1,e2,C,T,hm,k⟩:=k;show ok1.top▸ok1.pop.getAttr C T e1 e2 hm k) (Qw hb)
theorem WE.methP(hb:∀env w,fU o x env w=w)(hs:NoStars args)(hf:args.length<30)(hl:apos.endLine=pos.line)
  (h:WE F m H o λv H1=>Av F H1 v x λg=>WEs F m H1 args λvs H2=>WC F g (v::vs) H2 K):WE F m H (.Call (.Attribute o x apos) args [] pos) K:=by
 intro D t P s ok;apply @A2 _ _ _ _ Y _ _;show Fy hb hs hf hl (h.seq ok λy s1 v H1 P1 k ok1 pl=>?_);apply @A2 _ _ _ _ Y _ _;induction k using Av.casesOn with
 |inst a c d f mm e e1 e2 C T hm k=>
  subst e;rw[ok1.top];show ok1.getMethod C T e1 e2 hm (Cr hs (Mz T.keep) k ok1.pop λvs H2 P2 s2 xs k r ok2=>k D m t P2 s2 _ ok2 (.cons rfl r))
 |blt id g k=>
  show g D m _ P1 s1 y pl _ _ ok1 ok1.top ?_;show Cr hs (λh b=>{.machine,.inr (.inl rfl),.of_pure rfl}) k ok1 λvs H2 P2 s2 xs k r ok2=>k D m t P2 s2 _ ok2.pop (.cons ok2.top r)
theorem Av.mono(h:Av F H v x k)(n:∀g,k g->k' g):Av F H v x k':=by
 induction h using Av.casesOn with
 |inst a c d f mm e e1 e2 C T g k=>show .inst a c d f mm e e1 e2 C T g (n _ k)
 |blt id g k=>show .blt id g (n _ k)
theorem M8(ih:∀e H K,f (g e) H K->WE F m H e K)(hs:NoStars es):∀{H:AH}{KL:List V->AH->Prop},evL f (es.map g) H KL->WEs F m H es KL:=by
 induction hs with
 |nil=>show .nil
 |cons h1 _ i=>show λh=>.cons h1 ((ih _ _ _ h).mono λv H1 k=>i k)
theorem WE.listP(h:WEs F m H es λvs H1=>vs.length<=2^20/\Wm H1 vs K):WE F m H (.List es p) K:=λD t P s ok=>Fu (A4 (h D t P s p ok) (λxs s1 q=>by
 apply Y;obtain⟨vs,H1,P1,⟨hl,k⟩,r,ok1⟩:=q;show{szL hl r.len,?_};apply Y;induction k using Wm.casesOn with
 |data k=>show ok1.data (n:=s1.toks) k rfl (λb=>N3) λP' f=>{xs,{_,bI _ rfl},r.mono f}
 |own k=>
  obtain⟨e,ok2⟩:=ok1.own (a:=.list vs) (n:=s1.toks) (o:={cls:=.type "list",data:=.seq xs.toArray}) rfl {xs,{_,bI _ rfl},r};show ok2.val (k _ e) rfl) λb b p=>p)
theorem Rf(ih:∀e H K,f (g e) H K->WE F m H e K)(h:evP f (x.map g) H KO):WP F m H x KO:=by
 induction x using Option.casesOn with
 |none=>show .none h
 |some e=>show .some ((ih e _ _ h).mono λv H1 k=>by
   induction v using V.casesOn with
   |int i=>show⟨i,rfl,k⟩
   |_=>show k.elim)
theorem WP.mono(h:WP F m H x KO)(n:∀v H,KO v H->KO' v H):WP F m H x KO':=λD t P s ok=>A4 (h D t P s ok) (λa a z9=>z9.elim λi y0=>y0.elim λH' y1=>y1.elim λP' y2=>y2.elim λk y3=>y3.elim λq ok'=>{i,H',P',n _ _ k,q,ok'}) λa a p=>p
theorem WT.mono{KB KB':Bool->AH->Prop}(h:WT F m H e KB)(n:∀b H,KB b H->KB' b H):WT F m H e KB':=λD t P s ok=>A4 (h D t P s ok) (λa a z9=>by obtain⟨H',P',k,ok'⟩:=z9;show{H',P',n _ _ k,ok'}) λa a p=>p
theorem trB_ok(ih:∀m e sl H KB,ev F ns m (g e) sl H (evB KB)->WT F (lc ns sl) H e KB){es:List cR}{m:Nat}{H:AH}{KB:Bool->AH->Prop}(h:ev F ns m (trB op (es.map g)) sl H (evB KB)):WA F (lc ns sl) H op es KB:=by
 induction es generalizing m H KB with
 |nil=>rcases m<;>show h.elim
 |cons x r ih2=>
  rcases r with _|⟨y,r⟩
  .induction op using PySem.BoolOp.casesOn with
   |And=>show .and ((ih m x sl H KB h).mono λb H k=>by rcases b;show k;show .andN k)
   |Or=>show .or ((ih m x sl H KB h).mono λb H k=>by rcases b;show .orN k;show k)
  .rcases m with _|m
   .show h.elim
   .induction op using PySem.BoolOp.casesOn with
    |And=>show .and ((ih m x sl H _ h).mono λb H k=>by rcases b;show k;show ih2 k)
    |Or=>show .or ((ih m x sl H _ h).mono λb H k=>by rcases b;show ih2 k;show k)
section
variable(ns:List (bY×aY))(G:Gt)
structure CR(e:cR)where
 v:Ex
 t:Ex
 vo:GtOk G->∀F m sl H K,ev F ns m v sl H K->WE F (lc ns sl) H e K
 to:GtOk G->∀F m sl H KB,ev F ns m t sl H (evB KB)->WT F (lc ns sl) H e KB
variable(e:cR)
structure F2:Prop where
 st:F3 e
 sw:∀tg line env,iA e tg line env=pure false
noncomputable abbrev As:Prop:=∀ov iv new,oJ e ov iv new=(do cN [new,ov,iv] (gF ov iv new);jb [new,ov,iv] [];pure oy)
noncomputable abbrev Lt:Prop:=∀o r,dQ e o r=pure ()
noncomputable abbrev Ab:Prop:=∀x env w,fU e x env w=w
noncomputable abbrev Sb:Prop:=∀x y,iV e false x y=jc [x,y] (i5 x y)
structure TR where
 c:CR ns G e
 st:Option (PLift (F3 e))
 sw:Option (PLift (∀tg line env,iA e tg line env=pure false))
 ab:Option (PLift (Ab e))
 sb:Bool
 as:Option (PLift (As e))
 lt:Option (PLift (Lt e))
 ix:∀o p,CR ns G o->Option (PLift (Lt o))->CR ns G (.Subscript o e p)
 cl:∀as p,CR ns G (.Call e as [] p)
 ca:Option (PLift (∀as p,Ab (.Call e as [] p)))
 gl:Bool×Bool×Bool
variable{ns G}{e:cR}
def CR.mk'(x y:Ex)(h:GtOk G->∀F m sl H K,ev F ns (m+1) x sl H K->WE F (lc ns sl) H e K)(h2:GtOk G->∀F m sl H KB,ev F ns (m+1) y sl H (evB KB)->WT F (lc ns sl) H e KB):CR ns G e:=
 ⟨x,y,λg F m sl H K k=>match m,k with
  |_+1,k=>h g F _ sl H K k,λg F m sl H K k=>match m,k with
  |_+1,k=>h2 g F _ sl H K k⟩
def CR.val(x:Ex)(h:GtOk G->∀F m sl H K,ev F ns (m+1) x sl H K->WE F (lc ns sl) H e K):CR ns G e:=.mk' x .bad h λg F m sl H K h=>h.elim
variable(e)in
def CR.raw:CR ns G e:=.val (.raw e) λg F m sl H K h=>h
def CR.pl(hp:∀env whole,fY e env whole=(do let v <- whole;cQ e.pos;cN [v] (lq v)))(y:CR ns G e):CR ns G e:={y.v,y.v,y.vo,λg F m sl H K h=>.val hp ((y.vo g F m sl H _ h).mono M7)}
def CR.bif:∀b:Bool,(b=true->CR ns G e)->(b=false->CR ns G e)->CR ns G e
 |true,k,_=>k rfl
 |false,_,k=>k rfl
def CR.ite(b:Bool)(k:b=true->CR ns G e):CR ns G e:=.bif b k λ_=>.raw e
def CR.opt{α:Type}:∀o:Option α,(∀a,o=some a->CR ns G e)->CR ns G e->CR ns G e
 |some a,k,_=>k a rfl
 |none,_,d=>d
def CR.get{p:Prop}(o:Option (PLift p))(k:p->CR ns G e):CR ns G e:=.opt o (λa _=>k a.down) (.raw e)
variable(e)in
def CR.t0(c:CR ns G e):TR ns G e:={c,none,none,none,false,none,none,λ_ _ _ _=>.raw _,λ_ _=>.raw _,none,true,false,false}
def CR.t2(c:CR ns G e)(h:F2 e):TR ns G e:={c,some ⟨h.st⟩,some ⟨h.sw⟩,none,false,none,none,λ_ _ _ _=>.raw _,λ_ _=>.raw _,none,true,false,false}
def CR.sub(c:CR ns G e)(sb:Sb e)(o:cR)(p:ki)(d:CR ns G o)(_:Option (PLift (Lt o))):CR ns G (.Subscript o e p):=.val (.sub d.v c.v) λg F m sl H K h=>.sub sb ((d.vo g F m sl H _ h).mono λv H1 k=>c.vo g F m sl H1 _ k)
def CR.t3(c:CR ns G e)(sb:Sb e)(h:F2 e):TR ns G e:={c,some ⟨h.st⟩,some ⟨h.sw⟩,none,true,none,none,c.sub sb,λ_ _=>.raw _,none,true,false,false}
theorem loc_ok (e:nix ns x=some (i,k)) (ek:Wo k=true) (h:match gs sl i with
  |some v=>K v H
  |none=>False):WE F (lc ns sl) H (.Name x p) K:=by
 have mm:=Ah (sl:=sl) e;split at h
 .next v eg=>
  rw[eg]at mm;show .name mm ?_ h
  induction k using PySem.NameKind.casesOn with
  |«local»=>show .inl rfl
  |cell=>show .inr (.inl rfl)
  |free=>show .inr (.inr rfl)
  |_=>show aR ek
 .show h.elim
theorem Ua(h:Wn H K):WE F (lc ns sl) H (.Dict [] [] p) K:=by
 apply Y;induction h using Wn.casesOn with
 |data v hv k=>show .b6 hv k
 |own o ho k=>show .dict0O ho k
theorem Wp(h:evB k v H)(n:∀H,k true H->KB' true H)(n2:∀H,k false H->KB' false H):KB KB' v H:=by
 induction v using V.casesOn with
 |bool b=>show{b,rfl,by rcases b;show n2 H h;show n H h}
 |_=>show h.elim
variable(ih:∀e,TR ns G e)
def Rg:∀es,Option (PLift (NoStars es))
 |[]=>some ⟨.nil⟩
 |e::r=>match (ih e).st,Rg r with
  |some h,some h2=>some {.cons h.down h2.down}
  |_,_=>none
def nameT(x:bY)(p:ki):CR ns G (.Name x p):=.opt (nix ns x) (λq e=>.bif (Wo q.2) (λek=>.val (.loc q.1) λg F m sl H K h=>loc_ok e ek h)
 λ_=>.opt (bh G.val x) (λv ev=>.ite (q.2==.globalImplicit) λeg=>.val (.con v) λg F m sl H K h=>(g.val _ (Dj ev)).elim λc g1=>.glob g1.1 g1.2 (beq_iff_eq.mp eg▸Ah e) h) (.raw _)) (.raw _)
def consT(c:Const)(k:Nat)(p:ki):CR ns G (.Constant c k p):=match c with
 |.int i=>.val (.con (.int i)) λg F m sl H K h=>.int h
 |.str s=>.val (.con (.str s)) λg F m sl H K h=>.str h
 |.none=>.val (.con .none) λg F m sl H K h=>.none h
 |.bool b=>.val (.con (.bool b)) λg F m sl H K h=>.bool h
 |.bytes b=>.val (.con (.bytes b)) λg F m sl H K h=>.bytes h
 |_=>.raw _
def cmpT(l r:cR)(op:pY)(p:ki):CR ns G (.Compare l [op] [r] p):=.bif (fT op r) (λ_=>.raw _) λe=>.mk' (.cmp op (ih l).c.v (ih r).c.v) (.cmp op (ih l).c.v (ih r).c.v)
 (λg F m sl H K h=>.cmp e (((ih l).c.vo g F m sl H _ h).mono λv H1 k=>((ih r).c.vo g F m sl H1 _ k).mono λw H2 k=>Jb k))
 λg F m sl H K h=>.cmp e (((ih l).c.vo g F m sl H _ h).mono λv H1 k=>((ih r).c.vo g F m sl H1 _ k).mono λw H2 k=>(Jb k).mono M7)
def chainT(l r r2:cR)(op op2:pY)(p:ki):CR ns G (.Compare l [op,op2] [r,r2] p):=.bif (fT op2 r2) (λ_=>.raw _) λe=>.mk' (.chain op op2 (ih l).c.v (ih r).c.v (ih r2).c.v) (.chain op op2 (ih l).c.v (ih r).c.v (ih r2).c.v)
 (λg F m sl H K h=>.chain e (((ih l).c.vo g F m sl H _ h).mono λv H1 k=>((ih r).c.vo g F m sl H1 _ k).mono λw H2 k=>(Jb k).mono λz H3 k=>Wp k (λH3 k=>((ih r2).c.vo g F m sl H3 _ k).mono λu H4 k=>Jb k) λH k=>k))
 λg F m sl H K h=>.chain e (((ih l).c.vo g F m sl H _ h).mono λv H1 k=>((ih r).c.vo g F m sl H1 _ k).mono λw H2 k=>(Jb k).mono λz H3 k=>Wp k (λH3 k=>((ih r2).c.vo g F m sl H3 _ k).mono λu H4 k=>(Jb k).mono M7) λH k=>k)
def cmpsT(l:cR)(p:ki):∀ops rs,CR ns G (.Compare l ops rs p)
 |[op],[r]=>cmpT ih l r op p
 |[op,op2],[r,r2]=>chainT ih l r r2 op op2 p
 |_,_=>.raw _
def callN(x:bY)(np p:ki)(as:List cR):CR ns G (.Call (.Name x np) as [] p):=.opt (nix ns x) (λq e=>.ite (q.2==.globalImplicit&&!as.any λe=>(ih e).gl.2.1) λe2=>.get (Rg ih as) λea=>
 have mm:=λsl=>beq_iff_eq.mp (aT.mp e2).1▸Ah (sl:=sl) e
 .opt (bh G.fn x) (λa ef=>.val (.call ↑a (as.map λe=>(ih e).c.v)) λg F m sl H K h=>.call (g.fn _ (Dj ef)).1 (g.fn _ (Dj ef)).2 ea (mm sl) (M8 (λe H K h=>(ih e).c.vo g F m sl H K h) ea h))
 (.opt (bh G.blt x) (λc eb=>.val (.call c (as.map λe=>(ih e).c.v)) λg F m sl H K h=>.be (g.blt _ (Dj eb)) ea (mm sl) (M8 (λe H K h=>(ih e).c.vo g F m sl H K h) ea h)) (.raw _))) (.raw _)
def callM(o:cR)(x:bY)(ap p:ki)(as:List cR):CR ns G (.Call (.Attribute o x ap) as [] p):=.get (ih o).ab λe1=>.ite ((ih o).gl.1&&(decide (as.length<30)&&decide (ap.endLine=p.line))) λe=>.get (Rg ih as) λe2=>
 have e3:=aT.mp (aT.mp e).2
 .val (.af (ih o).c.v x (as.map λe=>(ih e).c.v)) λg F m sl H K h=>.methP (e1 x) e2 (dte e3.1) (dte e3.2) (((ih o).c.vo g F m sl H _ h).mono λv H1 k=>k.mono λ_ k=>M8 (λe H K h=>(ih e).c.vo g F m sl H K h) e2 k)
def boolT(op:rC)(es:List cR)(p:ki):CR ns G (.BoolOp op es p):=
 have to:GtOk G->∀F m sl H KB,ev F ns m (trB op (es.map λe=>(ih e).c.t)) sl H (evB KB)->WT F (lc ns sl) H (.BoolOp op es p) KB:=λg F m sl H KB h=>.bop (trB_ok (λm e sl H KB h=>(ih e).c.to g F m sl H KB h) h)
 match op,es,to with
 |.And,[a,b],to=>⟨.and (ih a).c.v (ih b).c.v,_,λg F m sl H K h=>match m,h with
  |m+1,h=>.bop (.and (((ih a).c.vo g F m sl H _ h).mono λv H1 k=>Wp k (λH k=>.one ((ih b).c.vo g F m sl H K k)) λH k=>k)),to⟩
 |op,es,to=>{.raw (.BoolOp op es p),trB op (es.map λe=>(ih e).c.t),(CR.raw _).vo,to}
def slT(lo hi st:Option cR)(q:ki)(o:cR)(p:ki)(d:CR ns G o)(f:Option (PLift (Lt o))):CR ns G (.Subscript o (.Slice lo hi st q) p):=.get f λe=>.val (.slice d.v (lo.map λe=>(ih e).c.v) (hi.map λe=>(ih e).c.v) (st.map λe=>(ih e).c.v)) λg F m sl H K h=>
 have I:=λe H K h=>(ih e).c.vo g F m sl H K h
 .slice e ((d.vo g F m sl H _ h).mono λv H1 k=>(Rf I k).mono λl H2 k=>(Rf I k).mono λu H3 k=>(Rf I k).mono λc H4⟨ow,xs,as,hc,hz,k⟩=>⟨ow,xs,as,hc,hz,k⟩)
def layT:∀e,TR ns G e
 |.BoolOp op es p=>(boolT ih op es p).t2 {λ_ _=>rfl,λ_ _ _=>rfl}
 |.BinOp l op r p=>(CR.val (.bin op (ih l).c.v (ih r).c.v) λg F m sl H K h=>.bin (((ih l).c.vo g F m sl H _ h).mono λv H1 k=>((ih r).c.vo g F m sl H1 _ k).mono λw H2 k=>binV_w k)).t3 (λ_ _=>rfl) {λ_ _=>rfl,λ_ _ _=>rfl}
 |.UnaryOp op x p=>(CR.mk' (.un op (ih x).c.v) (match op with
  |.Not=>.not (ih x).c.t
  |_=>.bad) (λg F m sl H K h=>.un ((ih x).c.vo g F m sl H _ h)) λg F m sl H K h=>match op,h with
  |.Not,h=>.not ((ih x).c.to g F m sl H (λt H1=>K (!t) H1) h)).t3 (λ_ _=>rfl) {λ_ _=>rfl,λ_ _ _=>rfl}
 |.IfExp c b o p=>(CR.val (.ife (ih c).c.t (ih b).c.v (ih o).c.v) λg F m sl H K h=>.ifexp (((ih c).c.to g F m sl H _ h).mono λt H1 k=>match t,k with
  |true,k=>(ih b).c.vo g F m sl H1 _ k
  |false,k=>(ih o).c.vo g F m sl H1 _ k)).t2 {λ_ _=>rfl,λ_ _ _=>rfl}
 |.Constant c k p=>{ (CR.pl (λ_ _=>rfl) (consT c k p)).t3 (λ_ _=>rfl) {λ_ _=>rfl,λ_ _ _=>rfl} with ab:=some {λ_ _ _=>rfl},as:=some {λ_ _ _=>rfl}}
 |.Attribute o x p=>{ (CR.pl (λ_ _=>rfl) (CR.get (ih o).ab λe=>.val (.attr (ih o).c.v x) λg F m sl H K h=>.g6 (e x) ((ih o).c.vo g F m sl H _ h))).t3 (λ_ _=>rfl) {λ_ _=>rfl,λ_ _ _=>rfl} with ab:=some {λ_ _ _=>rfl},cl:=λas q=>callM ih o x p q as,ca:=some {λ_ _ _ _ _=>rfl},gl:={true,false,x=="items"}}
 |.Subscript o i p=>{ (CR.pl (λ_ _=>rfl) ((ih i).ix o p (ih o).c (ih o).lt)).t3 (λ_ _=>rfl) {λ_ _=>rfl,λ_ _ _=>rfl} with ab:=some {λ_ _ _=>rfl}}
 |.Slice lo hi st p=>{CR.t0 _ (.raw _) with ix:=slT ih lo hi st p}
 |.Dict ks vs p=>CR.t2 (match ks,vs with
  |[],[]=>.val .b6 λg F m sl H K h=>Ua h
  |_,_=>.raw _) {λ_ _=>rfl,λ_ _ _=>rfl}
 |.List es p=>(CR.get (Rg ih es) λe=>.val (.list (es.map λe=>(ih e).c.v)) λg F m sl H K h=>.listP (M8 (λe H K h=>(ih e).c.vo g F m sl H K h) e h)).t2 {λ_ _=>rfl,λ_ _ _=>rfl}
 |.Tuple es k p=>(CR.get (Rg ih es) λe=>.val (.tup (es.map λe=>(ih e).c.v)) λg F m sl H K h=>.tup (M8 (λe H K h=>(ih e).c.vo g F m sl H K h) e h)).t2 {λ_ _=>rfl,λ_ _ _=>rfl}
 |.Name x p=>{ (CR.pl (λ_ _=>rfl) (nameT x p)).t3 (λ_ _=>rfl) {λ_ _=>rfl,λ_ _ _=>rfl} with ab:=some {λ_ _ _=>rfl},as:=some {λ_ _ _=>rfl},lt:=some {λ_ _=>rfl},cl:=λas q=>callN ih x p q as,gl:={(nix ns x).any λp=>Wo p.2,false,x=="set"}}
 |.Compare l ops rs p=>(cmpsT ih l p ops rs).t2 {λ_ _=>rfl,λ_ _ _=>rfl}
 |.Call f as kws p=>match kws with
  |[]=>{ (CR.pl (λ_ _=>rfl) ((ih f).cl as p)).t2 {λ_ _=>rfl,λ_ _ _=>rfl} with ab:=(ih f).ca.map λh=>{h.down as p},gl:={true,(ih f).gl.2.2,false}}
  |_=>(CR.pl (λ_ _=>rfl) (CR.raw _)).t2 {λ_ _=>rfl,λ_ _ _=>rfl}
 |.ListComp a b c p=>{CR.t0 _ (.raw _) with st:=some {λ_ _=>rfl}}
 |.DictComp a b c d p=>{CR.t0 _ (.raw _) with st:=some {λ_ _=>rfl}}
 |.GeneratorExp a b c p=>CR.t2 (.raw _) {λ_ _=>rfl,λ_ _ _=>rfl}
 |.Lambda a b c p=>{CR.t2 (.raw _) {λ_ _=>rfl,λ_ _ _=>rfl} with gl:=⟨true,true,false⟩ }
 |.JoinedStr a p=>CR.t2 (.raw _) {λ_ _=>rfl,λ_ _ _=>rfl}
 |e=>CR.t0 e (.raw e)
end
section
variable(ns:List (bY×aY))(G:Gt)
def trT:Nat->∀e,TR ns G e
 |0=>λe=>CR.t0 e (.raw e)
 |n+1=>layT (trT n)
def tr(n:Nat)(t:Bool)(e:cR):Ex:=match t with
 |true=>(trT ns G n e).c.t
 |false=>(trT ns G n e).c.v
end
theorem Wq(g:GtOk G):∀n,(∀m e sl H K,ev F ns m (tr ns G n false e) sl H K->WE F (lc ns sl) H e K)/\∀m e sl H KB,ev F ns m (tr ns G n true e) sl H (evB KB)->WT F (lc ns sl) H e KB:=λn=>{λm e sl H K h=>(trT ns G n e).c.vo g F m sl H K h,λm e sl H K h=>(trT ns G n e).c.to g F m sl H K h}
end
section
set_option backward.match.sparseCases false
set_option tactic.hygienic true
inductive St where
 |done|bad|fq
 |set(i:Nat)(e:Ex)(k:St)|b4 (o:Ex) (n:bY) (e:Ex) (k:St)|bq (o i e:Ex) (k:St)|aug (i:Nat) (op:iN) (e:Ex) (k:St)|cb (o:Ex) (n:bY) (op:iN) (e:Ex) (k:St)
 |ret(e:Ex)|ite (c:Ex) (a b k:St)|expr (e:Ex) (k:St)|rs (e:Ex)|augS (o i:Ex) (op:iN) (e:Ex) (k:St)|raw (s:gQ) (k:St)
section
variable(F:Fx)
inductive SetP(H:AH)(ov:V)(n:bY)(v:V)(k:AH->Prop):Prop
 |mk(a c d:aK)(mm:List (bY×V))(e:ov=.ref a)(e1:H a=some (.inst c (some d)))(e2:H d=some (.aa mm))(C:StF c)(T:AtF c n)(hz:mm.length<=900)(k:k (H.set d (.aa (lput mm n v))))
 |first(a c:aK)(e:ov=.ref a)(e1:H a=some (.inst c none))(hx:c∈excA)(C:StF c)(T:AtF c n)(k:∀d,H d=none->k ((H.set d (.aa [(n,v)])).set a (.inst c (some d))))
inductive AugP(H:AH)(ov:V)(n:bY)(op:iN)(w:(V->AH->Prop)->Prop)(k:AH->Prop):Prop
 |mk(a c d:aK)(mm:List (bY×V))(w0:V)(e:ov=.ref a)(e1:H a=some (.inst c (some d)))(e2:H d=some (.aa mm))(C:ClsF c)(T:AtF c n)(g:lget mm n=some w0)
  (h:w λv H2=>W2 F (fS op) w0 v H2 λw H3=>∃mm2,H3 a=some (.inst c (some d))/\H3 d=some (.aa mm2)/\mm2.length<=900/\k (H3.set d (.aa (lput mm2 n w))))
inductive Rh(H:AH)(v:V):Prop
 |mk(a c:aK)(d:Option aK)(e:v=.ref a)(e1:H a=some (.inst c d))(hc:c∈excA)(R:RsF c)(k:F.KX c (H.del a))
def Ri(op:iN)(v w:V)(H:AH)(K:V->AH->Prop):Prop:=match op,Re v w with
 |.Add,some p=>K (.int (p.1+p.2)) H
 |_,_=>W2 F (fS op) v w H K
variable(ns:List (bY×aY))(KR:V->AH->Prop)
def evS:St->(List (Option V)->AH->Prop)->List (Option V)->AH->Prop
 |.done,KN,sl,H=>KN sl H
 |.bad,_,_,_=>False
 |.fq,_,_,H=>KR .none H
 |.set i e k,KN,sl,H=>ev F ns 60 e sl H λv H1=>evS k KN (ss sl i v) H1
 |.b4 o n e k,KN,sl,H=>ev F ns 60 e sl H λv H1=>ev F ns 60 o sl H1 λov H2=>SetP H2 ov n v (evS k KN sl)
 |.bq o i e k,KN,sl,H=>ev F ns 60 e sl H λv H1=>ev F ns 60 o sl H1 λov H2=>ev F ns 60 i sl H2 λiv H3=>U3 F gF ov iv v H3 (evS k KN sl)
 |.aug i op e k,KN,sl,H=>match gs sl i with
  |some v0=>ev F ns 60 e sl H λv H1=>Ri F op v0 v H1 λw H2=>evS k KN (ss sl i w) H2
  |none=>False
 |.cb o n op e k,KN,sl,H=>ev F ns 60 o sl H λov H1=>AugP F H1 ov n op (ev F ns 60 e sl H1) (evS k KN sl)
 |.ret e,_,sl,H=>ev F ns 60 e sl H KR
 |.ite c a b k,KN,sl,H=>ev F ns 60 c sl H (evB λt H1=>bif t then evS a (evS k KN) sl H1 else evS b (evS k KN) sl H1)
 |.expr e k,KN,sl,H=>ev F ns 60 e sl H λ_ H1=>evS k KN sl H1
 |.augS o i op e k,KN,sl,H=>ev F ns 60 o sl H λov H1=>ev F ns 60 i sl H1 λiv H2=>W2 F i5 ov iv H2 λw0 H3=>ev F ns 60 e sl H3 λv H4=>Ri F op w0 v H4 λw H5=>U3 F gF ov iv w H5 (evS k KN sl)
 |.rs e,_,sl,H=>ev F ns 60 e sl H λv H1=>Rh F H1 v
 |.raw s k,KN,sl,H=>WS1 F KR (lc ns sl) H s λm' H'=>∃sl',m'=lc ns sl'/\evS k KN sl' H'
end
def stOk:aY->Bool
 |.local=>true
 |.cell=>true
 |_=>false
variable{F:Fx}{ns:List (bY×aY)}{G:Gt}{sl:List (Option V)}{H:AH}{K:V->AH->Prop}{KR:V->AH->Prop}
theorem Rj(h:Ri F op v w H K):W2 F (fS op) v w H K:=by
 delta Ri at h;generalize e:Re v w=o at h
 induction op using PySem.Operator.casesOn with
 |Add=>
  rcases o with _|p
  .show h
  .obtain⟨rfl,rfl⟩:=Ke e;show .iadd h
 |_=>show h
theorem WG.g6(h:WE F m H o λov H1=>SetP H1 ov x v (KN m)):WG F m H (.Attribute o x p) v KN:=by
 intro D t P s y ok;apply @A2 _ _ _ _ Y _ _;change A2 _ _ (do
  let ov <- cN [y] (ch o D.env)
  cQ p.atName
  cN [y,ov] (lE ov x y)
  jb [y,ov] []) _ _ _
 show A0 (A3 (h.seq ok λz s1 ov H1 P1 k ok1=>?_))
 induction k using SetP.casesOn with
 |mk a c d mm e e1 e2 C T hz k=>
  subst e;rw[ok1.top];show A0 (A5 (A0 (A3 (ok1.pop.pop.setAttr C T e1 e2 hz ok1.top2 λs' ok'=>Bl ⟨m,_,_,k,ok'⟩))))
 |first a c e e1 hx C T k=>
  apply @A2 _ _ _ Y _ _ _;subst e;obtain rfl:=ok1.top;show A0 (A5 (A0 (A3 (ok1.pop.pop.dy C T e1 hx ok1.top2 λd s' n ok'=>Bl {m,_,_,k d n,ok'}))))
theorem Bc{k:aY}{ns:List (bY×aY)}:∀{sl:List (Option V)}{i:Nat},nix ns x=some (i,k)->SetAt (lc ns sl) x k v (lc ns (ss sl i v)):=by
 induction ns with
 |nil=>intro sl i h;show fn h
 |cons q r ih=>
  intro sl i h;obtain⟨y,j⟩:=q;rcases bB (y=x) with e|e
  .rw[show nix ((y,j)::r) x=some (0,j) from if_pos e]at h;injection h with h;injection h with h e8;subst h;subst e8;subst e;rcases sl<;>show .here
  .rw[show nix ((y,j)::r) x=(nix r x).map λp=>(p.1+1,p.2) from if_neg e]at h;obtain⟨⟨i',k'⟩,h1,h2⟩:=bF.mp h;clear h;injection h2 with h2 e8;subst h2;subst e8;rcases sl with _|⟨u,sl⟩
   .show .there (show SetAt (lc r []) x k' v (lc r (ss [] i' v)) from ih h1)
   .show .there (show SetAt (lc r sl) x k' v (lc r (ss sl i' v)) from ih h1)
theorem st_of(h:stOk k=true)(hc:F.co=false):k=.local\/(k=.cell/\F.co=false):=by
 induction k using PySem.NameKind.casesOn with
 |«local»=>show .inl rfl
 |cell=>show .inr ⟨rfl,hc⟩
 |_=>show ff h
theorem WS1.augP{w:AH->(V->AH->Prop)->Prop}(hw:∀H K,w H K->WE F m H e K)(n:∀H,k H->KN m H)(h:WE F m H o λov H1=>AugP F H1 ov x op (w H1) k):WS1 F KR m H (.AugAssign (.Attribute o x tp) op e p) KN:=by
 intro D t P s ok;apply @A2 _ _ _ _ Y _ _;show D5 (h.seq ok λz s1 ov H1 P1 k ok1=>?_);apply @A2 _ _ _ _ Y _ _;obtain⟨a,c,d,mm,w0,rfl,e1,e2,C,T,hm,k⟩:=k;obtain rfl:=ok1.top;show A4 (ok1.pop.getAttr (K:=λw H'=>w=w0/\H'=H1) C T e1 e2 hm ⟨rfl,rfl⟩) (λy s2 p=>?_) λb b p=>p;clear o tp h P s ok s1 P1 mm e1 e2 hm ok1;obtain⟨b,b,P2,⟨rfl,rfl⟩,ok2⟩:=p;show(hw _ _ k).seq ok2 λz s3 v H3 P3 k3 ok3=>A4 (k3 D m t P3 s3 y z ok3) (λw s4 p=>?_) λb b p=>p;apply Y;obtain⟨wv,H4,P4,⟨mm2,f1,f2,hz,kn⟩,ok4⟩:=p;show ok4.pop.setAttr C.toStF T f1 f2 hz ok4.top λs' ok'=>.next m _ P4 (n _ kn) ok'
theorem WS1.mono{st:gQ}(h:WS1 F KR m H st KN)(n:∀m H,KN m H->KN' m H):WS1 F KR m H st KN':=λD t P s ok=>A4 (h D t P s ok) (λa a p=>p.mono n) λa a p=>p
theorem SetP.mono(h:SetP H ov x v k)(n:∀H,k H->k' H):SetP H ov x v k':=by
 induction h using SetP.casesOn with
 |mk a c d mm e e1 e2 C T hz k=>show .mk a c d mm e e1 e2 C T hz (n _ k)
 |first a c e e1 hx C T k=>show .first a c e e1 hx C T λd q=>n _ (k d q)
theorem U3.mono(h:U3 F f u v w H k)(n:∀H,k H->k' H):U3 F f u v w H k':=λD m t P s x y z ok=>A4 (h D m t P s x y z ok) (λa a z9=>by apply @PU _ _ _ Y _;obtain⟨m',H',P',k,ok'⟩:=z9;show{m',H',P',{k.1,n _ k.2},ok'}) λa a p=>p
section
variable(ns:List (bY×aY))(G:Gt)
structure SR(body:List gQ)where
 c:St
 ok:GtOk G->∀F KR,F.keep=[]->F.co=false->∀sl H KN,evS F ns KR c KN sl H->WS F KR (lc ns sl) H body λm' H'=>∃sl',m'=lc ns sl'/\KN sl' H'
variable{ns G}{st:gQ}{r:List gQ}
def SR.raw(st:gQ)(k:SR ns G r):SR ns G (st::r):={.raw st k.c,λg F KR hk hc sl H KN h=>.cons (h.mono λm' H'⟨sl',e,h⟩=>by subst e;show k.ok g F KR hk hc sl' H' KN h)}
def SR.opt{α:Type}:∀o:Option α,(∀a,o=some a->SR ns G r)->SR ns G r->SR ns G r
 |some a,k,_=>k a rfl
 |none,_,d=>d
def SR.bif:∀b:Bool,(b=true->SR ns G r)->SR ns G r->SR ns G r
 |true,k,_=>k rfl
 |false,_,d=>d
theorem aug_ok{w:(V->AH->Prop)->Prop}(hk:F.keep=[])(hc:F.co=false)(ex:nix ns x=some (i,k))(es:stOk k=true)
  (hw:∀K,w K->WE F (lc ns sl) H e K) (n:∀v H,c v H->KN (lc ns (ss sl i v)) H) (h:match gs sl i with
  |some v0=>w λv H1=>Ri F op v0 v H1 c
  |none=>False):WS1 F KR (lc ns sl) H (.AugAssign (.Name x np) op e p) KN:=by
 have mm:=Ah (sl:=sl) ex;split at h
 .next v0 eg=>
  rw[eg]at mm;show .aug mm (st_of es hc) (λk w h=>by rw[hk]at h;show absurd h aD) ((hw _ h).mono λv H1 k=>(Rj k).mono λw H2 k=>{_,Bc ex,n w H2 k})
 .show h.elim
variable(T:∀e,TR ns G e)(k:SR ns G r)
def asgT(e:cR)(p:ki)(sw:∀tg line env,iA e tg line env=pure false):∀tg,SR ns G (.Assign [tg] e p::r)
 |.Name x np=>.opt (nix ns x) (λq ex=>.bif (stOk q.2) (λes=>{.set q.1 (T e).c.v k.c,λg F KR hk hc sl H KN h=>.cons (.assign (sw _) (λf=>rfl) (λf f=>rfl) (((T e).c.vo g F _ sl H _ h).mono λv H1 h=>.name (Bc ex) (st_of es hc) (λk w h=>by rw[hk]at h;show nomatch h) (k.ok g F KR hk hc _ H1 KN h)))}) (.raw _ k)) (.raw _ k)
 |.Attribute o x tp=>{.b4 (T o).c.v x (T e).c.v k.c,λg F KR hk hc sl H KN h=>.cons (.assign (sw _) (λf=>rfl) (λf f=>rfl) (((T e).c.vo g F _ sl H _ h).mono λv H1 h=>.g6 (((T o).c.vo g F _ sl H1 _ h).mono λov H2 h=>h.mono λH3 h=>k.ok g F KR hk hc _ H3 KN h)))}
 |.Subscript o i tp=>.bif (T i).sb (λ_=>{.bq (T o).c.v (T i).c.v (T e).c.v k.c,λg F KR hk hc sl H KN h=>.cons (.assign (sw _) (λf=>rfl) (λf f=>rfl) (((T e).c.vo g F _ sl H _ h).mono λv H1 h=>.sub (((T o).c.vo g F _ sl H1 _ h).mono λov H2 h=>((T i).c.vo g F _ sl H2 _ h).mono λiv H3 h=>h.mono λH4 h=>k.ok g F KR hk hc _ H4 KN h)))}) (.raw _ k)
 |_=>.raw _ k
def augT(op:iN)(e:cR)(p:ki):∀tg,SR ns G (.AugAssign tg op e p::r)
 |.Name x np=>.opt (nix ns x) (λq ex=>.bif (stOk q.2) (λes=>{.aug q.1 op (T e).c.v k.c,λg F KR hk hc sl H KN h=>.cons (aug_ok hk hc ex es (λK h=>(T e).c.vo g F _ sl H K h) (λv H1 h=>k.ok g F KR hk hc _ H1 KN h) h)}) (.raw _ k)) (.raw _ k)
 |.Attribute o x tp=>{.cb (T o).c.v x op (T e).c.v k.c,λg F KR hk hc sl H KN h=>.cons (.augP (w:=λH1=>ev F ns 60 (T e).c.v sl H1) (λH K h=>(T e).c.vo g F _ sl H K h) (λH h=>k.ok g F KR hk hc _ H KN h) ((T o).c.vo g F _ sl H _ h))}
 |.Subscript o i tp=>.opt (T i).as (λes _=>{.augS (T o).c.v (T i).c.v op (T e).c.v k.c,λg F KR hk hc sl H KN h=>.cons (.augSub es.down (((T o).c.vo g F _ sl H _ h).mono λov H1 h=>((T i).c.vo g F _ sl H1 _ h).mono λiv H2 h=>h.mono λw0 H3 h=>((T e).c.vo g F _ sl H3 _ h).mono λv H4 h=>(Rj h).mono λw H5 h=>h.mono λH6 h=>k.ok g F KR hk hc _ H6 KN h))}) (.raw _ k)
 |_=>.raw _ k
variable(S:∀body,SR ns G body)
def stT(r:List gQ):∀st,SR ns G (st::r)
 |.Assign [tg] e p=>.opt (T e).sw (λsw _=>asgT T (S r) e p sw.down tg) (.raw _ (S r))
 |.AugAssign tg op e p=>augT T (S r) op e p tg
 |.Return (some e) p=>{.ret (T e).c.v,λg F KR hk hc sl H KN h=>.cons (.ret ((T e).c.vo g F _ sl H _ h))}
 |.Return none p=>{.fq,λg F KR hk hc sl H KN h=>.cons (.fq h)}
 |.Raise (some e) none p=>{.rs (T e).c.v,λg F KR hk hc sl H KN h=>.cons (.raise (((T e).c.vo g F _ sl H _ h).mono λv H1⟨a,c,d,e,e1,hc,R,k⟩=>⟨a,c,d,e,e1,hc,R,k⟩))}
 |.If c a b p=>⟨.ite (T c).c.t (S a).c (S b).c (S r).c,λg F KR hk hc sl H KN h=>.cons (.ite (((T c).c.to g F _ sl H _ h).mono λt H1 h=>
   have fin:=λ{ss}(h:WS F KR (lc ns sl) H1 ss λm' H'=>∃sl',m'=lc ns sl'/\evS F ns KR (S r).c KN sl' H')=>h.mono λm' H'⟨sl',e,h⟩=>e▸(S r).ok g F KR hk hc sl' H' KN h
   match t,h with
   |true,h=>fin ((S a).ok g F KR hk hc sl H1 _ h)
   |false,h=>fin ((S b).ok g F KR hk hc sl H1 _ h)))⟩
 |.Expr e p=>.opt (T e).sw (λsw _=>{.expr (T e).c.v (S r).c,λg F KR hk hc sl H KN h=>.cons (.expr (sw.down none) (((T e).c.vo g F _ sl H _ h).mono λv H1 h=>(S r).ok g F KR hk hc sl H1 KN h))}) (.raw _ (S r))
 |st=>.raw st (S r)
end
section
variable(ns:List (bY×aY))(G:Gt)
def trU:Nat->∀body,SR ns G body
 |_,[]=>{.done,λg F KR hk hc sl H KN h=>.nil ⟨sl,rfl,h⟩}
 |0,_::_=>{.bad,λg F KR hk hc sl H KN h=>h.elim}
 |n+1,st::r=>stT (trT ns G 50) (trU n) r st
def trS(n:Nat)(body:List gQ):St:=(trU ns G n body).c
end
theorem Jc(g:GtOk G)(hk:F.keep=[])(hc:F.co=false):∀n body sl H KN,evS F ns KR (trS ns G n body) KN sl H->WS F KR (lc ns sl) H body λm' H'=>∃sl',m'=lc ns sl'/\KN sl' H':=λn body sl H KN h=>(trU ns G n body).ok g F KR hk hc sl H KN h
end
section
set_option backward.match.sparseCases false
def A7:gQ->List gQ
 |.FunctionDef _ _ b _ _ _ _ _ _ _=>b
 |_=>[]
def A9:gQ->nE
 |.FunctionDef _ _ _ _ _ _ s _ _ _=>s
 |_=>default
theorem Oc:∀(ns:List (bY×aY))(vs:List V),mk0 ns vs=lc ns (vs.map some)
 |[],_=>rfl
 |(x,k)::r,[]=>congrArg (cW _) (Oc r [])
 |(x,k)::r,v::vs=>congrArg (cW _) (Oc r vs)
theorem enterC(g:GtOk G)(fn:Fn fa as body sc)(e:trS sc.names G 60 body=ir){F:Fx}{K:V->AH->Prop}(hl:as.length=vs.length)
  (h:evS F.bd sc.names K ir (λ_ H'=>K .none H') (vs.map some) H):WCc F.u ↑fa vs H K:=
 Tr fn hl (Oc _ _▸(Jc g rfl rfl 60 body _ H _ (e▸h)).mono λ_ _ z9=>z9.elim λ_ y0=>y0.elim λ_ k=>k)
def fdOf(o:jh):FuncData:=match o.data with
 |.func f=>f
 |_=>{name:="",qualname:="",params:={posonlyargs:=[],args:=[],vararg:=none,kwonlyargs:=[],kw_defaults:=[],kwarg:=none,defaults:=[]},body:=.stmts [],scope:=default,globals:=0,closure:=[],defaults:=.none,kwdefaults:=.none}
end
section
set_option backward.match.sparseCases false
set_option tactic.hygienic true
def gT:Gt where
 val:=[(ce "NUMBER",.int 4),(ce "MOST_EACH",.int 10),(ce "SPARE",.int 4)]
 fn:=[(ce "_law_box",547),(ce "_law_cut",626),(ce "_law_deed",598),(ce "_law_done",645),(ce "_law_due",593),("_law_grouped",588),("_law_head",576),("_law_is_over",605),("_law_met",566),(ce "_law_opened",631),("_law_plan",612),("_law_point_right",679),("_law_put",638),(ce "_law_recovered",667),("_law_recovered_right",674),("_law_run",655),("_law_seen",650),("_law_some",559),(ce "_law_stopped",662),("_law_strides",581),("_law_take",554),("_law_world",571),(ce "_law_written",619),("numbers_of",109),("octets_in",540),("packed_head",102),("read_head",116),(ce "BoardError",39),("BadArgument",52),("BadDisk",64),("NoRoom",76),(ce "Crash",95),("Journal",218),("Buffer",316),("Cache",433),("Disk",529)]
 blt:=[("abs",.builtin "abs"),("bytearray",.type "bytearray"),("bytes",.type "bytes"),("dict",.type "dict"),("int",.type "int"),("len",.builtin "len"),("list",.type "list"),("min",.builtin "min")]
def Rn(P:g7)(ns:aK)(x:bY)(v:aL):Bool:=decide (r4 (Am P) ns x=some (some v))
theorem M9(h:Rn P ns x v=true):r4 (Am P) ns x=some (some v):=dte h
theorem gT_fn:∀P,(gT.fn.all λp=>Rn P cV p.1 ↑p.2&&mn (Am P) ↑p.2)=true:=λP=>⋯
def Vr(P:g7)(ns:aK)(x:bY):Bool:=decide (r4 (Am P) ns x=some none)
theorem Ro(h:Vr P ns x=true):r4 (Am P) ns x=some none:=dte h
theorem Vs:∀P,(gT.blt.all λp=>Vr P cV p.1&&Rn P i4 p.1 p.2)=true:=λP=>⋯
theorem Al:GtOk gT:=by
 show{λp hp=>?_,λp hp=>{⟨λP=>?_⟩,λP=>?_},λp hp=>{λP=>?_,λP=>?_,?_}}
 .apply Y;rcases aS.mp hp with e8|hp
  .subst e8;show{.int 4 299,⟨λP=>rfl⟩,λa=>{299,rfl}}
  .cases hp with
   |head=>show{.int 10 301,⟨λP=>rfl⟩,λa=>{301,rfl}}
   |tail _ hp=>cases hp with
    |head=>show{.int 4 303,⟨λP=>rfl⟩,λa=>{303,rfl}}
    |tail _ hp=>show absurd hp aD
 .show M9 (aT.mp (cT.mp (gT_fn P) p hp)).1
 .show(aT.mp (cT.mp (gT_fn P) p hp)).2
 .show Ro (aT.mp (cT.mp (Vs P) p hp)).1
 .show M9 (aT.mp (cT.mp (Vs P) p hp)).2
 .have:∀p∈gT.blt,(∃n,p.2=.builtin n)\/∃n,p.2=.type n:=by
   intro p hp;have:=cT.mp (show(gT.blt.all λp=>match p.2 with|.builtin _=>true|.type _=>true|_=>false)=true by rfl) p hp;generalize p.2=v at this ⊢
   induction v using PySem.Value.casesOn with
   |builtin n=>show .inl ⟨n,rfl⟩
   |type n=>show .inr ⟨n,rfl⟩
   |_=>show ff this
  rcases this p hp with⟨n,e⟩|⟨n,e⟩<;>rw[e]<;>rfl
theorem Ia:BltF "range" (.type "range"):={λP=>rfl,λP=>rfl,rfl}
theorem Cs:BltF "enumerate" (.type "enumerate"):={λP=>rfl,λP=>rfl,rfl}
theorem Pr:BltF "reversed" (.type "reversed"):={λP=>rfl,λP=>rfl,rfl}
theorem b_set:BltF "set" (.type "set"):={λP=>rfl,λP=>rfl,rfl}
theorem Ej:BltF "isinstance" (.builtin "isinstance"):={λP=>rfl,λP=>rfl,rfl}
theorem b_len:BltF "len" (.builtin "len"):={λP=>rfl,λP=>rfl,rfl}
theorem Od:BltF "list" (.type "list"):={λP=>rfl,λP=>rfl,rfl}
theorem Wr:BltF "int" (.type "int"):={λP=>rfl,λP=>rfl,rfl}
end
section
set_option backward.match.sparseCases false
def kids:cR->List cR
 |.BoolOp _ es _=>es
 |.BinOp l _ r _=>[l,r]
 |.UnaryOp _ x _=>[x]
 |.IfExp c a b _=>[c,a,b]
 |.Compare l _ rs _=>l::rs
 |.Call f as _ _=>f::as
 |.Attribute v _ _=>[v]
 |.Subscript v s _=>[v,s]
 |.List es _=>es
 |.Tuple es _ _=>es
 |.Dict _ vs _=>vs
 |_=>[]
def B0:List Nat->cR->cR
 |[],e=>e
 |i::r,e=>B0 r ((kids e).getD i e)
def stE(j:Nat):gQ->cR
 |.Assign ts e _=>(e::ts).getD j e
 |.AugAssign t _ e _=>[e,t].getD j e
 |.Return (some e) _=>e
 |.Expr e _=>e
 |.If c _ _ _=>c
 |.Raise (some e) _ _=>e
 |_=>default
def Ad:List Nat->List gQ->gQ
 |[],_=>default
 |[i],ss=>ss.getD i default
 |i::b::r,ss=>match ss.getD i default with
  |.If _ a o _=>Ad r (if b=0 then a else o)
  |.For _ _ a _ _=>Ad r a
  |.Try a _ _ _ _=>Ad r a
  |_=>default
noncomputable abbrev Ws:=Nat×List bY×gQ×St
def Aq(a:Nat)(l:List bY)(s:gQ)(i:St):Ws:=(a,l,s,i)
def Ni:List Ws:=Aq 36 ["self","reason"] (cst 2 0) (.expr (.raw (B0 [] (stE 0 (Ad [0] (A7 (cst 2 0)))))) (.b4 'A' "reason" 'B' .done))::
Aq 92 ["self","writes"] (cst 6 0) (.expr (.raw (B0 [] (stE 0 (Ad [0] (A7 (cst 6 0)))))) (.b4 'A' "writes" 'B' .done))::
Aq 102 ["numbers","size"] (tst 11) (.ite (.cmp .Gt (.bin .Mult 'e' (.bin .Add (.call (.builtin "len") ['A']) 'b')) 'B') (.rs (.call ↑52 [(.con (.str "a head that is too long"))])) .done (.set 2 (.call (.type "bytearray") []) (.raw (Ad [2] (A7 (tst 11))) (.ret (.bin .Add (.call (.type "bytes") ['C']) (.call (.type "bytes") [(.bin .Sub 'B' (.call (.builtin "len") ['C']))]))))))::
Aq 109 ["octets"] (tst 12) (.set 1 (.list []) (.raw (Ad [1] (A7 (tst 12))) (.ret 'B')))::
Aq 116 ["octets","most"] (tst 13) (.set 2 (.call ↑109 ['A']) (.ite (.or (.cmp .Eq (.call (.builtin "len") ['C']) 'a') (.or (.cmp .Gt (.sub 'C' 'a') 'B') (.cmp .GtE (.sub 'C' 'a') (.call (.builtin "len") ['C'])))) (.rs (.call ↑64 [(.con (.str "the head of the log"))])) .done (.ret (.slice 'C' (.some 'b') (.some (.bin .Add 'b' (.sub 'C' 'a'))) .none))))::
Aq 131 ["self","cache","start","size","each"] (cst 14 0) (.ite (.or (.cmp .Lt 'C' 'a') (.or (.cmp .Lt 'D' 'c') (.cmp .Gt (.bin .Add 'C' 'D') (.attr (.attr 'B' "disk") "blocks")))) (.rs (.call ↑52 [(.con (.str "a log that the disk does not have"))])) .done (.b4 'A' "cache" 'B' (.b4 'A' "start" 'C' (.b4 'A' "size" 'D' (.b4 'A' "places" (.call (.builtin "min") [(.bin .Sub 'D' 'b'),(.bin .Sub (.bin .FloorDiv (.attr 'B' "size") 'e') 'b')]) (.b4 'A' "most" (.call (.builtin "min") [(.attr 'A' "places"),(.bin .Sub (.attr 'B' "most") 'e')]) (.ite (.cmp .Lt (.attr 'A' "most") 'b') (.rs (.call ↑52 [(.con (.str "too few buffers for a log"))])) .done (.b4 'A' "each" (.ife (.cmp .Is 'E' (.con .none)) (.call (.builtin "min") ['k',(.attr 'A' "most")]) 'E') (.ite (.not (.chain .LtE .LtE 'b' (.attr 'A' "each") (.attr 'A' "most"))) (.rs (.call ↑52 [(.con (.str "more blocks a call than the log has"))])) .done (.b4 'A' "numbers" (.list []) (.b4 'A' "noted" .b6 (.b4 'A' "calls" 'a' (.b4 'A' "commits" 'a' .done)))))))))))))::
Aq 138 ["self","number"] (cst 14 1) (.ret (.chain .LtE .Lt (.attr 'A' "start") 'B' (.bin .Add (.attr 'A' "start") (.attr 'A' "size"))))::
Aq 145 ["self"] (cst 14 2) (.ret (.cmp .LtE (.bin .Add (.call (.builtin "len") [(.attr 'A' "numbers")]) (.bin .Mult (.bin .Add (.attr 'A' "calls") 'b') (.attr 'A' "each"))) (.attr 'A' "most")))::
Aq 152 ["self"] (cst 14 3) (.ret (.bin .Sub (.attr 'A' "most") (.call (.builtin "len") [(.attr 'A' "numbers")])))::
Aq 159 ["self"] (cst 14 4) (.ite (.not (.af 'A' "has_room" [])) (.rs (.call ↑76 [(.con (.str "the log"))])) .done (.cb 'A' "calls" .Add 'b' .done))::
Aq 166 ["self","buffer"] (cst 14 5) (.ite (.cmp .Eq (.attr 'A' "calls") 'a') (.rs (.call ↑52 [(.con (.str "a write outside of a call"))])) .done (.ite (.af 'A' "is_own" [(.attr 'B' "number")]) (.rs (.call ↑52 [(.con (.str "a write into the log itself"))])) .done (.ite (.cmp .In (.attr 'B' "number") (.attr 'A' "noted")) (.expr (.af (.attr 'A' "cache") "need_held" ['B']) .fq) .done (.ite (.cmp .GtE (.call (.builtin "len") [(.attr 'A' "numbers")]) (.attr 'A' "most")) (.rs (.call ↑76 [(.con (.str "too many blocks for the log"))])) .done (.expr (.af (.attr 'A' "cache") "pin" ['B']) (.bq (.attr 'A' "noted") (.attr 'B' "number") (.call (.builtin "len") [(.attr 'A' "numbers")]) (.expr (.af (.attr 'A' "numbers") "append" [(.attr 'B' "number")]) .done)))))))::
Aq 173 ["self"] (cst 14 6) (.ite (.cmp .Eq (.attr 'A' "calls") 'a') (.rs (.call ↑52 [(.con (.str "no call is open"))])) .done (.cb 'A' "calls" .Sub 'b' (.ite (.and (.cmp .Eq (.attr 'A' "calls") 'a') (.cmp .NotEq (.attr 'A' "numbers") (.list []))) (.expr (.af 'A' "commit" []) .done) .done .done)))::
Aq 180 ["self"] (cst 14 7) (.expr (.af 'A' "fill_log" []) (.expr (.af 'A' "write_head" [(.attr 'A' "numbers")]) (.expr (.af 'A' "install" [(.attr 'A' "numbers"),(.con (.bool false))]) (.expr (.af 'A' "write_head" [(.list [])]) (.raw (Ad [4] (A7 (cst 14 7))) (.b4 'A' "numbers" (.list []) (.b4 'A' "noted" .b6 (.cb 'A' "commits" .Add 'b' .done))))))))::
Aq 187 ["self"] (cst 14 8) (.raw (Ad [0] (A7 (cst 14 8))) (.expr (.af (.attr 'A' "cache") "flush" []) .done))::
Aq 194 ["self","numbers"] (cst 14 9) (.expr (.af (.attr 'A' "cache") "poke" [(.attr 'A' "start"),(.call ↑102 ['B',(.attr (.attr 'A' "cache") "size")])]) (.expr (.af (.attr 'A' "cache") "flush" []) .done))::
Aq 201 ["self","numbers","from_log"] (cst 14 10) (.raw (Ad [0] (A7 (cst 14 10))) (.expr (.af (.attr 'A' "cache") "flush" []) .done))::
Aq 208 ["self"] (cst 14 11) (.set 1 (.call ↑116 [(.af (.attr 'A' "cache") "peek" [(.attr 'A' "start")]),(.attr 'A' "places")]) (.raw (Ad [1] (A7 (cst 14 11))) (.ret 'B')))::
Aq 215 ["self"] (cst 14 12) (.ite (.or (.cmp .Gt (.attr 'A' "calls") 'a') (.cmp .NotEq (.attr 'A' "numbers") (.list []))) (.rs (.call ↑52 [(.con (.str "a recovery among open calls"))])) .done (.set 1 (.af 'A' "pending" []) (.ite (.cmp .NotEq 'B' (.list [])) (.expr (.af 'A' "install" ['B',(.con (.bool true))]) (.expr (.af 'A' "write_head" [(.list [])]) .done)) .done (.ret 'B'))))::
Aq 236 ["self","number","octets"] (cst 16 0) (.b4 'A' "number" 'B' (.b4 'A' "data" (.call (.type "bytearray") ['C']) (.b4 'A' "holders" 'a' (.b4 'A' "pins" 'a' .done))))::
Aq 243 ["self"] (cst 16 1) (.ret (.and (.cmp .Eq (.attr 'A' "holders") 'a') (.cmp .Eq (.attr 'A' "pins") 'a')))::
Aq 250 ["self"] (cst 16 2) (.ret (.call (.type "bytes") [(.attr 'A' "data")]))::
Aq 278 ["self","octets"] (cst 16 6) (.ite (.cmp .NotEq (.call (.builtin "len") ['B']) (.call (.builtin "len") [(.attr 'A' "data")])) (.rs (.call ↑52 [(.con (.str "a block of another size"))])) .done (.raw (Ad [1] (A7 (cst 16 6))) .done))::
Aq 334 ["self","disk","most"] (cst 17 0) (.ite (.cmp .Lt 'C' 'b') (.rs (.call ↑52 [(.con (.str "a cache without buffers"))])) .done (.b4 'A' "disk" 'B' (.b4 'A' "most" 'C' (.b4 'A' "size" (.attr 'B' "size") (.b4 'A' "row" (.list []) (.b4 'A' "by_number" .b6 (.b4 'A' "hits" 'a' (.b4 'A' "reads" 'a' (.b4 'A' "writes" 'a' .done)))))))))::
Aq 341 ["self","number"] (cst 17 1) (.ite (.or (.not (.raw (B0 [0,0] (stE 0 (Ad [0] (A7 (cst 17 1))))))) (.not (.chain .LtE .Lt 'a' 'B' (.attr (.attr 'A' "disk") "blocks")))) (.rs (.call ↑64 [(.con (.str "no such block"))])) .done .done)::
Aq 348 ["self","buffer"] (cst 17 2) (.ite (.or (.cmp .IsNot (.af (.attr 'A' "by_number") "get" [(.attr 'B' "number")]) 'B') (.cmp .Eq (.attr 'B' "holders") 'a')) (.rs (.call ↑52 [(.con (.str "a buffer that is not held"))])) .done .done)::
Aq 355 ["self","number"] (cst 17 3) (.expr (.af 'A' "need_block" ['B']) (.set 2 (.af (.attr 'A' "by_number") "get" ['B']) (.ite (.cmp .Is 'C' (.con .none)) (.expr (.af 'A' "make_room" []) (.set 2 (.call ↑316 ['B',(.af (.attr 'A' "disk") "read" ['B'])]) (.cb 'A' "reads" .Add 'b' (.bq (.attr 'A' "by_number") 'B' 'C' (.expr (.af (.attr 'A' "row") "append" ['C']) .done))))) (.cb 'A' "hits" .Add 'b' .done) (.cb 'C' "holders" .Add 'b' (.ret 'C')))))::
Aq 362 ["self"] (cst 17 4) (.ite (.cmp .Lt (.call (.builtin "len") [(.attr 'A' "row")]) (.attr 'A' "most")) .fq .done (.raw (Ad [1] (A7 (cst 17 4))) (.rs (.call ↑76 [(.con (.str "all buffers are held"))]))))::
Aq 369 ["self","buffer"] (cst 17 5) (.expr (.af 'A' "need_held" ['B']) (.cb 'B' "holders" .Sub 'b' (.ite (.cmp .Eq (.attr 'B' "holders") 'a') (.expr (.af (.attr 'A' "row") "remove" ['B']) (.expr (.af (.attr 'A' "row") "append" ['B']) .done)) .done .done)))::
Aq 376 ["self","buffer"] (cst 17 6) (.expr (.af 'A' "need_held" ['B']) (.cb 'B' "pins" .Add 'b' .done))::
Aq 383 ["self","number"] (cst 17 7) (.set 2 (.af (.attr 'A' "by_number") "get" ['B']) (.ite (.or (.cmp .Is 'C' (.con .none)) (.cmp .Eq (.attr 'C' "pins") 'a')) (.rs (.call ↑52 [(.con (.str "a block that is not pinned"))])) .done (.cb 'C' "pins" .Sub 'b' .done)))::
Aq 390 ["self","buffer"] (cst 17 8) (.expr (.af 'A' "need_held" ['B']) (.expr (.af (.attr 'A' "disk") "write" [(.attr 'B' "number"),(.af 'B' "octets" [])]) (.cb 'A' "writes" .Add 'b' .done)))::
Aq 397 ["self"] (cst 17 9) (.expr (.af (.attr 'A' "disk") "flush" []) .done)::
Aq 404 ["self","number"] (cst 17 10) (.set 2 (.af 'A' "get" ['B']) (.set 3 (.af 'C' "octets" []) (.expr (.af 'A' "release" ['C']) (.ret 'D'))))::
Aq 411 ["self","number","octets"] (cst 17 11) (.expr (.af 'A' "need_block" ['B']) (.ite (.cmp .NotEq (.call (.builtin "len") ['C']) (.attr 'A' "size")) (.rs (.call ↑52 [(.con (.str "a block of another size"))])) .done (.set 3 (.af 'A' "get" ['B']) (.expr (.af 'D' "fill" ['C']) (.expr (.af 'A' "write" ['D']) (.expr (.af 'A' "release" ['D']) .done))))))::
Aq 423 ["self"] (cst 17 13) (.ret (.bin .Sub (.attr 'A' "most") (.call (.builtin "len") [(.raw (B0 [1,1] (stE 0 (Ad [0] (A7 (cst 17 13))))))])))::
Aq 451 ["self","blocks","size"] (cst 19 0) (.ite (.or (.cmp .Lt 'B' 'b') (.cmp .Lt 'C' 'b')) (.rs (.call ↑52 [(.con (.str "a disk of no octets"))])) .done (.b4 'A' "blocks" 'B' (.b4 'A' "size" 'C' (.b4 'A' "kept" .b6 (.b4 'A' "latest" .b6 (.b4 'A' "unflushed" (.list []) (.b4 'A' "writes" 'a' (.b4 'A' "flushes" 'a' (.b4 'A' "last" (.con .none) (.b4 'A' "last_flush" (.con .none) (.b4 'A' "is_dead" (.con (.bool false)) .done)))))))))))::
Aq 458 ["self"] (cst 19 1) (.ite (.attr 'A' "is_dead") (.rs (.call ↑95 [(.attr 'A' "writes")])) .done .done)::
Aq 465 ["self","number"] (cst 19 2) (.ite (.or (.not (.raw (B0 [0,0] (stE 0 (Ad [0] (A7 (cst 19 2))))))) (.not (.chain .LtE .Lt 'a' 'B' (.attr 'A' "blocks")))) (.rs (.call ↑64 [(.raw (B0 [1] (stE 0 (Ad [0,0,0] (A7 (cst 19 2))))))])) .done .done)::
Aq 472 ["self","number"] (cst 19 3) (.expr (.af 'A' "need_power" []) (.expr (.af 'A' "need_block" ['B']) (.ret (.af (.attr 'A' "latest") "get" ['B',(.call (.type "bytes") [(.attr 'A' "size")])]))))::
Aq 479 ["self","number","octets"] (cst 19 4) (.expr (.af 'A' "need_power" []) (.expr (.af 'A' "need_block" ['B']) (.set 3 (.call ↑540 ['C']) (.ite (.cmp .NotEq (.call (.builtin "len") ['D']) (.attr 'A' "size")) (.rs (.call ↑64 [(.raw (B0 [1] (stE 0 (Ad [3,0,0] (A7 (cst 19 4))))))])) .done (.ite (.and (.cmp .IsNot (.attr 'A' "last") (.con .none)) (.cmp .GtE (.attr 'A' "writes") (.attr 'A' "last"))) (.expr (.af 'A' "fail" []) .done) .done (.cb 'A' "writes" .Add 'b' (.bq (.attr 'A' "latest") 'B' 'D' (.expr (.af (.attr 'A' "unflushed") "append" [(.tup ['B','D'])]) .done))))))))::
Aq 486 ["self"] (cst 19 5) (.b4 'A' "is_dead" (.con (.bool true)) (.rs (.call ↑95 [(.attr 'A' "writes")])))::
Aq 493 ["self"] (cst 19 6) (.expr (.af 'A' "need_power" []) (.ite (.and (.cmp .IsNot (.attr 'A' "last_flush") (.con .none)) (.cmp .GtE (.attr 'A' "flushes") (.attr 'A' "last_flush"))) (.expr (.af 'A' "fail" []) .done) .done (.cb 'A' "flushes" .Add 'b' (.raw (Ad [3] (A7 (cst 19 6))) (.b4 'A' "unflushed" (.list []) .done)))))::
Aq 500 ["self","count"] (cst 19 7) (.ite (.cmp .Lt 'B' 'a') (.rs (.call ↑52 [(.con (.str "a count below 0"))])) .done (.b4 'A' "last" (.bin .Add (.attr 'A' "writes") 'B') .done))::
Aq 507 ["self","count"] (cst 19 8) (.ite (.cmp .Lt 'B' 'a') (.rs (.call ↑52 [(.con (.str "a count below 0"))])) .done (.b4 'A' "last_flush" (.bin .Add (.attr 'A' "flushes") 'B') .done))::
Aq 514 ["self","chosen"] (cst 19 9) (.raw (Ad [0] (A7 (cst 19 9))) (.b4 'C' "kept" (.call (.type "dict") [(.attr 'A' "kept")]) (.raw (Ad [2] (A7 (cst 19 9))) (.raw (Ad [3] (A7 (cst 19 9))) (.b4 'C' "latest" (.call (.type "dict") [(.attr 'C' "kept")]) (.ret 'C'))))))::
Aq 526 ["self"] (cst 19 11) (.ret (.af (.con (.bytes [])) "join" [(.raw (B0 [1] (stE 0 (Ad [0] (A7 (cst 19 11))))))]))::
Aq 540 ["value"] (tst 20) (.ite (.raw (B0 [] (stE 0 (Ad [0] (A7 (tst 20)))))) (.rs (.call ↑64 [(.con (.str "a number in the place of octets"))])) .done (.raw (Ad [1] (A7 (tst 20))) .done))::
Aq 547 ["script"] (tst 22) (.raw (Ad [0] (A7 (tst 22))) (.raw (Ad [1] (A7 (tst 22))) (.ret (.list ['B','C','a']))))::
Aq 554 ["box","many"] (tst 23) (.ite (.cmp .Gt (.sub 'A' 'a') 'a') (.set 2 (.bin .Mod (.sub 'A' 'a') 'B') (.bq 'A' 'a' (.bin .FloorDiv (.sub 'A' 'a') 'B') (.ret 'C'))) .done (.augS 'A' 'c' .Add 'b' (.ret (.bin .Mod (.bin .FloorDiv (.bin .Mod (.bin .Pow (.bin .Add (.sub 'A' 'b') (.bin .Mult (.con (.int 40111)) (.sub 'A' 'c'))) 'd') (.con (.int 2147483647))) 'q') 'B'))))::
Aq 559 ["box","many"] (tst 24) (.ret (.raw (B0 [] (stE 0 (Ad [0] (A7 (tst 24)))))))::
Aq 566 ["deed"] (tst 25) (.raw (Ad [0] (A7 (tst 25))) (.ret (.con (.str "told"))))::
Aq 571 ["box"] (tst 26) (.set 1 (.list [(.raw (B0 [0] (stE 0 (Ad [0] (A7 (tst 26)))))),(.raw (B0 [1] (stE 0 (Ad [0] (A7 (tst 26))))))]) (.raw (Ad [1] (A7 (tst 26))) (.raw (Ad [2] (A7 (tst 26))) (.bq 'F' (.bin .Sub 'b' 'C') (.bin .Add (.bin .Add (.bin .Add 'D' (.sub 'B' 'C')) 'b') 'E') (.raw (Ad [4] (A7 (tst 26))) (.raw (Ad [5] (A7 (tst 26))) (.ret (.raw (B0 [] (stE 0 (Ad [6] (A7 (tst 26)))))))))))))::
Aq 576 ["numbers"] (tst 27) (.ret (.bin .Add (.af (.con (.bytes [])) "join" [(.raw (B0 [0,1] (stE 0 (Ad [0] (A7 (tst 27))))))]) (.call (.type "bytes") [(.bin .Sub 'm' (.bin .Mult 'e' (.call (.builtin "len") ['A'])))])))::
Aq 581 ["world","k","noted"] (tst 28) (.raw (Ad [0] (A7 (tst 28))) (.raw (Ad [1] (A7 (tst 28))) (.raw (Ad [2] (A7 (tst 28))) (.ret (.list [(.bin .Add 'F' (.list [(.con .none)])),(.list [(.tup ['D',(.call ↑576 ['E'])]),(.con .none)]),(.bin .Add 'G' (.list [(.con .none)])),(.list [(.tup ['D',(.call (.type "bytes") ['q'])]),(.con .none)])])))))::
Aq 588 ["book","k"] (tst 29) (.expr (.af (.sub (.sub 'A' (.con (.str "states"))) 'B') "append" [(.call (.type "dict") [(.bin .Add (.raw (B0 [1,1,0] (stE 0 (Ad [0] (A7 (tst 29)))))) (.raw (B0 [1,1,1] (stE 0 (Ad [0] (A7 (tst 29)))))))])]) .done)::
Aq 593 ["world","book","k","way","number","octets"] (tst 30) (.set 6 (.sub (.sub 'B' (.con (.str "noted"))) 'C') (.ite (.cmp .Eq 'D' 'a') (.ite (.cmp .Gt (.bin .Add (.call (.builtin "len") ['G']) (.bin .Mult (.bin .Add (.sub (.sub 'B' (.con (.str "calls"))) 'C') 'b') (.sub (.sub 'A' (.con (.str "each"))) 'C'))) (.sub (.sub 'A' (.con (.str "places"))) 'C')) (.ret (.tup [(.con (.str "room")),(.list [])])) .done (.augS (.sub 'B' (.con (.str "calls"))) 'C' .Add 'b' (.ret (.tup [(.con (.str "told")),(.list [])])))) .done (.ite (.cmp .Eq (.sub (.sub 'B' (.con (.str "calls"))) 'C') 'a') (.ret (.tup [(.con (.str "argument")),(.list [])])) .done (.ite (.cmp .Eq 'D' 'b') (.ite (.and (.cmp .NotIn 'E' 'G') (.cmp .Eq (.call (.builtin "len") ['G']) (.sub (.sub 'A' (.con (.str "places"))) 'C'))) (.ret (.tup [(.con (.str "room")),(.list [])])) .done (.bq 'G' 'E' 'F' (.ret (.tup [(.con (.str "told")),(.list [])])))) .done (.augS (.sub 'B' (.con (.str "calls"))) 'C' .Sub 'b' (.ite (.or (.cmp .Gt (.sub (.sub 'B' (.con (.str "calls"))) 'C') 'a') (.cmp .Eq 'G' .b6)) (.ret (.tup [(.con (.str "told")),(.list [])])) .done (.raw (Ad [6] (A7 (tst 30))) (.expr (.call ↑588 ['B','C']) (.bq (.sub 'B' (.con (.str "noted"))) 'C' .b6 (.ret (.tup [(.con (.str "told")),'H'])))))))))))::
Aq 598 ["box","world","book","k","way","turn"] (tst 31) (.raw (Ad [0] (A7 (tst 31))) (.ite (.and (.cmp .Eq 'E' 'd') (.and (.cmp .NotEq (.sub 'J' 'D') .b6) (.not (.sub (.sub 'C' (.con (.str "slow"))) 'D')))) (.raw (Ad [1,0,0] (A7 (tst 31))) (.expr (.call ↑588 ['C','D']) .done)) .done (.ite (.or (.cmp .Eq 'E' 'd') (.sub (.sub 'C' (.con (.str "slow"))) 'D')) (.set 10 (.sub (.sub 'C' (.con (.str "strides"))) 'D') (.raw (Ad [2,0,1] (A7 (tst 31))) (.bq (.sub 'C' (.con (.str "strides"))) 'D' (.slice 'K' (.some 'b') .none .none) .done))) (.ite (.cmp .Eq 'E' 'b') (.set 6 (.sub (.sub (.sub 'B' (.con (.str "own"))) 'D') (.bin .Mod (.bin .Add (.call (.builtin "len") [(.sub 'J' 'D')]) (.bin .FloorDiv (.call ↑554 ['A','d']) 'c')) 'd')) (.set 7 (.call (.type "bytes") [(.bin .Add (.bin .Mult (.list [(.call ↑554 ['A',(.con (.int 256))])]) 'p') (.list [(.bin .Add 'F' 'b')]))]) .done)) .done (.raw (Ad [2,1,1] (A7 (tst 31))) .done)) (.set 12 (.call (.type "dict") [(.bin .Add (.raw (B0 [1,0] (stE 0 (Ad [3] (A7 (tst 31)))))) (.raw (B0 [1,1] (stE 0 (Ad [3] (A7 (tst 31)))))))]) (.ret (.tup ['D','E','G','H','I','L','M',(.bin .Add (.sub 'C' (.con (.str "calls"))) (.raw (B0 [7,1] (stE 0 (Ad [4] (A7 (tst 31)))))))]))))))::
Aq 605 ["book","k"] (tst 32) (.ret (.ife (.sub (.sub 'A' (.con (.str "slow"))) 'B') (.cmp .Eq (.sub (.sub 'A' (.con (.str "strides"))) 'B') (.list [])) (.cmp .Eq (.sub (.sub 'A' (.con (.str "noted"))) 'B') .b6)))::
Aq 612 ["box","world","many"] (tst 33) (.set 3 (.raw (B0 [] (stE 0 (Ad [0] (A7 (tst 33)))))) (.set 4 (.list []) (.raw (Ad [2] (A7 (tst 33))) (.set 6 (.call ↑554 ['A','c']) (.raw (Ad [4] (A7 (tst 33))) (.ret (.tup ['E',(.sub 'D' (.con (.str "states")))])))))))::
Aq 619 ["view","rows"] (tst 34) (.set 2 (.call (.type "list") ['A']) (.raw (Ad [1] (A7 (tst 34))) (.ret 'C')))::
Aq 626 ["deeds","at_flush","count"] (tst 35) (.raw (Ad [0] (A7 (tst 35))) (.raw (Ad [1] (A7 (tst 35))) (.ret (.tup [(.call (.builtin "len") ['A']),'D','E']))))::
Aq 631 ["world","disk"] (tst 36) (.set 2 (.call ↑433 ['B',(.sub 'A' (.con (.str "room")))]) (.ret (.tup ['C',(.raw (B0 [1] (stE 0 (Ad [1] (A7 (tst 36))))))])))::
Aq 638 ["cache","journal","number","octets"] (tst 37) (.set 6 (.af 'A' "get" ['C']) (.set 4 (.af 'G' "octets" []) (.expr (.af 'G' "fill" ['D']) (.set 5 (.raw (B0 [] (stE 0 (Ad [3] (A7 (tst 37)))))) (.ite (.cmp .NotEq 'F' (.con (.str "told"))) (.expr (.af 'G' "fill" ['E']) .done) .done (.expr (.af 'A' "release" ['G']) (.ret 'F')))))))::
Aq 645 ["cache","journal","deed"] (tst 38) (.set 3 (.sub 'C' 'b') (.ite (.cmp .Eq 'D' 'a') (.ret (.raw (B0 [] (stE 0 (Ad [1,0,0] (A7 (tst 38))))))) .done (.ite (.cmp .Eq 'D' 'b') (.ret (.call ↑638 ['A','B',(.sub 'C' 'c'),(.sub 'C' 'd')])) .done (.ite (.cmp .Eq 'D' 'c') (.ret (.raw (B0 [] (stE 0 (Ad [3,0,0] (A7 (tst 38))))))) .done (.ite (.cmp .Eq 'D' 'd') (.expr (.af 'B' "fill_log" []) .done) (.ite (.cmp .Eq 'D' 'e') (.expr (.af 'B' "write_head" [(.attr 'B' "numbers")]) .done) (.ite (.cmp .Eq 'D' 'f') (.expr (.af 'B' "install" [(.attr 'B' "numbers"),(.con (.bool false))]) .done) (.ite (.cmp .Eq 'D' 'g') (.expr (.af 'B' "write_head" [(.list [])]) .done) .done .done) .done) .done) (.ret (.con (.str "told"))))))))::
Aq 650 ["world","cache","journals","held","view","deed","number"] (tst 39) (.set 7 (.sub 'F' 'g') (.ite (.or (.cmp .NotEq (.af (.attr 'B' "disk") "image" []) (.af (.con (.bytes [])) "join" ['E'])) (.cmp .NotEq (.bin .Add (.raw (B0 [1,0,0] (stE 0 (Ad [1] (A7 (tst 39)))))) (.raw (B0 [1,0,1] (stE 0 (Ad [1] (A7 (tst 39))))))) (.sub 'F' 'h'))) (.ret (.con (.bool false))) .done (.ite (.cmp .NotEq (.raw (B0 [0] (stE 0 (Ad [2] (A7 (tst 39)))))) (.raw (B0 [1] (stE 0 (Ad [2] (A7 (tst 39))))))) (.ret (.con (.bool false))) .done (.ite (.cmp .NotEq (.af 'B' "free_count" []) (.bin .Sub (.sub 'A' (.con (.str "room"))) (.raw (B0 [1,1] (stE 0 (Ad [3] (A7 (tst 39)))))))) (.ret (.con (.bool false))) .done (.ret (.cmp .Eq (.af 'B' "peek" ['G']) (.af 'H' "get" ['G',(.sub 'E' 'G')])))))))::
Aq 655 ["box","world","disk","deeds"] (tst 40) (.raw (Ad [0] (A7 (tst 40))) (.raw (Ad [1] (A7 (tst 40))) (.raw (Ad [2] (A7 (tst 40))) (.ret (.call (.builtin "len") ['D'])))))::
Aq 662 ["disk","at_flush","count"] (tst 41) (.ite 'B' (.expr (.af 'A' "stop_at_flush" ['C']) .done) (.expr (.af 'A' "stop_after" ['C']) .done) .done)::
Aq 667 ["world","disk","first"] (tst 42) (.set 3 (.sub (.call ↑631 ['A','B']) 'b') (.raw (Ad [1] (A7 (tst 42))) (.ret (.con (.str "right")))))::
Aq 674 ["box","world","disk","due"] (tst 43) (.set 4 (.call ↑554 ['A','c']) (.expr (.call ↑662 ['C',(.cmp .Eq 'E' 'b'),(.bin .Add (.bin .Sub 'b' 'E') (.call ↑554 ['A','e']))]) (.ite (.cmp .Eq (.call ↑667 ['B','C',(.call ↑554 ['A','c'])]) (.con (.str "wrong"))) (.ret (.con (.bool false))) .done (.set 2 (.af 'C' "after" [(.call ↑559 ['A',(.call (.builtin "len") [(.attr 'C' "unflushed")])])]) (.ret (.raw (B0 [] (stE 0 (Ad [4] (A7 (tst 43)))))))))))::
Aq 679 ["box","world","deeds","states","at_flush","count"] (tst 44) (.set 6 (.call ↑529 [(.sub 'B' (.con (.str "blocks"))),'q']) (.expr (.call ↑662 ['G','E','F']) (.raw (Ad [2] (A7 (tst 44))) (.ite (.or (.cmp .NotEq (.call ↑655 ['A','B','G','C']) 'H') (.cmp .NotEq (.attr 'G' "unflushed") 'J')) (.ret (.con (.bool false))) .done (.set 10 (.call ↑559 ['A',(.call (.builtin "len") ['J'])]) (.set 11 (.bin .Add 'I' (.raw (B0 [1] (stE 0 (Ad [5] (A7 (tst 44))))))) (.set 12 (.call ↑619 [(.bin .Mult (.list [(.call (.type "bytes") ['q'])]) (.sub 'B' (.con (.str "blocks")))),'L']) (.set 6 (.af 'G' "after" ['K']) (.ite (.cmp .NotEq (.af 'G' "image" []) (.af (.con (.bytes [])) "join" ['M'])) (.ret (.con (.bool false))) .done (.raw (Ad [9] (A7 (tst 44))) (.ret (.call ↑674 ['A','B','G',(.af (.con (.bytes [])) "join" ['M'])]))))))))))))::
Aq 684 ["script"] (tst 45) (.raw (Ad [0] (A7 (tst 45))) (.set 3 (.call ↑571 ['B']) (.raw (Ad [2] (A7 (tst 45))) (.raw (Ad [3] (A7 (tst 45))) (.set 7 (.call (.builtin "len") [(.raw (B0 [1] (stE 0 (Ad [4] (A7 (tst 45))))))]) (.raw (Ad [5] (A7 (tst 45))) (.ret (.con (.bool true)))))))))::[]
def Ub(i:Nat):Ws:=Ni[i]?.getD (Aq 92 ["self","writes"] (cst 6 0) (.expr (.raw (B0 [] (stE 0 (Ad [0] (A7 (cst 6 0)))))) (.b4 'A' "writes" 'B' .done)))
def J0(P:g7)(a:Nat):FuncData:=fdOf (((Am P).lookup a).getD default)
theorem fTabL:∀P,Ni.map (λe=>((Am P).lookup e.1,(J0 P e.1).body,(J0 P e.1).scope,(J0 P e.1).closure,(J0 P e.1).globals,(J0 P e.1).builtins,codeIn (Am P) (J0 P e.1).code (J0 P e.1).qualname,scOk e.2.1 (A9 e.2.2.1),trS (A9 e.2.2.1).names gT 60 (A7 e.2.2.1)))
 =Ni.map λe=>(some {cls:=.type "function",data:=.func (J0 P e.1)},.stmts (A7 e.2.2.1),A9 e.2.2.1,[],cV,i4,true,true,e.2.2.2):=λP=>⋯
theorem fTabB:∀P x S,Ni.map (λe=>peek (Am P) S (l0 (J0 P e.1) {vx e.2.1.length x,[]}))=Ni.map λe=>some (e.2.1.zip (vx e.2.1.length x)):=λP x S=>⋯
theorem Nj{l:List α}(i:Nat)(h:d∈l):l[i]?.getD d∈l:=by
 rcases e:l[i]? with _|v
 .show h
 .show aX e
theorem Uc(i:Nat)(e:Ub i=v):v∈Ni:=e▸Nj i (.tail _ (.head _))
theorem Ud{st:gQ}(P:g7)(h:(fa,as,st,ir)∈Ni):Fn fa as (A7 st) (A9 st)/\trS (A9 st).names gT 60 (A7 st)=ir:=by
 have e:=λP=>eX (iu.mp (fTabL P) (fa,as,st,ir) h);have e2:=λP=>eX (e P).2;have e3:=λP=>eX (e2 P).2;have e4:=λP=>eX (e3 P).2;have e5:=λP=>eX (e4 P).2;have e6:=λP=>eX (e5 P).2;have e7:=λP=>eX (e6 P).2;have e8:=eX (e7 P).2;show{{λP=>{J0 P fa,(e P).1,(e2 P).1,(e3 P).1,(e4 P).1,(e5 P).1,(e6 P).1,(e7 P).1,λx S=>iu.mp (fTabB P x S) (fa,as,st,ir) h},e8.1},e8.2}
theorem Nk(i:Nat){st:gQ}(e:Ub i=(fa,as,st,ir)){F:Fx}{K:V->AH->Prop}(hl:as.length=vs.length)
  (h:evS F.bd (A9 st).names K ir (λ_ H'=>K .none H') (vs.map some) H):WCc F.u ↑fa vs H K:=enterC Al (Ud F.g.w.params (Uc i e)).1 (Ud F.g.w.params (Uc i e)).2 hl h
theorem Aw(i:Nat){st:gQ}(e:Ub i=(fa,as,st,ir)){F:Fx}{K:V->AH->Prop}(hl:as.length=vs.length)
  (h:evS F.bd (A9 st).names K ir (λ_ H'=>K .none H') (vs.map some) H):WC F.u ↑fa vs H K:=(Nk i e hl h).wc
end
section
theorem bifD[Decidable c]{P Q:Prop}(h1:c->P)(h2:¬ c->Q):bif decide c then P else Q:=by
 by_cases h:c
 .rw[decide_eq_true h];show h1 h
 .rw[decide_eq_false h];show h2 h
theorem bifB{P Q:Prop}(h1:c=true->P)(h2:c=false->Q):bif c then P else Q:=by
 rcases c
 .show h2 rfl
 .show h1 rfl
variable{F:Fx}{H:AH}{K:V->AH->Prop}{a c d:aK}{o o':AObj}{l l1 l2:List (aK×AObj)}
structure HL(H:AH)(l:List (aK×AObj)):Prop where
 at_:∀p∈l,H p.1=some p.2
 nd:(l.map (·.1)).Nodup
theorem HL.get(h:HL H l)(i:Nat)(e:l[i]?=some (a,o)):H a=some o:=h.at_ (a,o) (aX e)
theorem HL.perm(h:HL H l)(p:l.Perm l2):HL H l2:={λq hq=>h.at_ q (p.mem_iff.mpr hq),(p.map _).nodup_iff.mp h.nd}
theorem HL.drop(h:HL H (l1++l)):HL H l:={λq hq=>h.at_ q (aG _ hq),by have:=h.nd;simp only[aJ]at this;show(eC.mp this).2.1}
theorem HL.fst(h:HL H (l1++l)):HL H l1:={λq hq=>h.at_ q (aU _ hq),by have:=h.nd;simp only[aJ]at this;show(eC.mp this).1}
theorem HL.put(h:HL H (l1++(a,o)::l2))(o':AObj):HL (H.set a o') (l1++(a,o')::l2):=by
 apply Y;have nd:=h.nd;rw[aJ]at nd;have nd':=nd;rw[eC]at nd;obtain⟨n1,n2,n3⟩:=nd;obtain⟨n4,b⟩:=bX.mp n2;show{λq hq=>?_,by rw[aJ];show nd'};apply Y;rcases aZ.mp hq with hq|hq
 .show(if_neg λy=>n3 q.1 (bZ hq) a (.head _) y).trans (h.at_ q (aU _ hq))
 .rcases aS.mp hq with e8|hq
  .subst e8;show if_pos rfl
  .show(if_neg λ(y:q.1=a)=>n4 (aE.mpr ⟨q,hq,y⟩)).trans (h.at_ q (aG _ (.tail _ hq)))
theorem Ma:∀{i:Nat},l[i]?=some (a,o)->l=l.take i++(a,o)::l.drop (i+1)/\l.set i (a,o')=l.take i++(a,o')::l.drop (i+1):=by
 induction l with
 |nil=>show λ{i}e=>mQ rfl (heq_of_eq e)
 |cons x r ih=>
  intro i e;rcases i with _|i
  .injection e with e;subst e;show⟨rfl,rfl⟩
  .show{congrArg (cW x) (ih e).1,congrArg (cW x) (ih e).2}
theorem HL.set(h:HL H l)(i:Nat)(o':AObj)(e:l[i]?=some (a,o)):HL (H.set a o') (l.set i (a,o')):=by
 obtain⟨h1,h2⟩:=Ma (o':=o') e;simp only[h2];rw[h1]at h;show h.put o'
theorem HL.new(h:HL H l)(n:H a=none)(o:AObj):HL (H.set a o) ((a,o)::l):=by
 have na:a∉l.map (·.1):=λhm=>by
  obtain⟨q,hq,e⟩:=aE.mp hm;have:=h.at_ q hq;rw[e,n]at this;show absurd this.symm (aF _)
 show{λq hq=>?_,bX.mpr {na,h.nd}};apply Y;rcases aS.mp hq with e8|hq
 .subst e8;show if_pos rfl
 .show(if_neg λ(y:q.1=a)=>na (aE.mpr ⟨q,hq,y⟩)).trans (h.at_ q hq)
theorem Aa.at(h:HL H l)(i j:Nat)(e1:l[i]?=some (a,.inst c (some d)))(e2:l[j]?=some (d,.aa mm))(C:ClsF c)(T:AtF c n)(g:lget mm n=some w)(k:K w H):Aa H ↑a n K:=
 {a,c,d,mm,w,rfl,h.get i e1,h.get j e2,C,T,g,k}
theorem Av.at(h:HL H l)(i j:Nat)(e1:l[i]?=some (a,.inst c (some d)))(e2:l[j]?=some (d,.aa mm))(C:ClsF c)(T:MtF c n f)(g:lget mm n=none)(hk:k ↑f):Av F H ↑a n k:=
 .inst a c d f mm rfl (h.get i e1) (h.get j e2) C T g hk
theorem SetP.at{v:V}(h:HL H l)(i j:Nat)(e1:l[i]?=some (a,.inst c (some d)))(e2:l[j]?=some (d,.aa mm))(C:StF c)(T:AtF c n)(hz:mm.length<=900)(hk:HL (H.set d (.aa (lput mm n v))) (l.set j (d,.aa (lput mm n v)))->k (H.set d (.aa (lput mm n v)))):SetP H ↑a n v k:=
 .mk a c d mm rfl (h.get i e1) (h.get j e2) C T hz (hk (h.set j _ e2))
theorem fdm{x m:Int}(hx:0<=x)(hm:1<=m):0<=x.fmod m/\x.fmod m<m/\0<=x.fdiv m/\x.fdiv m<=x:=by
 rw[Int.fmod_eq_emod_of_nonneg _ (by omega),Int.fdiv_eq_ediv_of_nonneg _ (by omega)];show{Int.emod_nonneg _ (lin 836949160264 263 tt hm),Int.emod_lt_of_pos _ ‹_›,pp hx (by omega),oR _ hx}
theorem Nl{n:Nat}(h:i.natAbs<2^n):gP i<=n:=by
 unfold gP;rcases bB (i=0) with e|e
 .clear h;subst e;show bV _
 .rw[if_neg (by simpa using e)];show(qT (λh=>e (Int.natAbs_eq_zero.mp h))).mpr h
noncomputable abbrev Ap (b:aK) (H H':AH):Prop:=∀a,a≠b->H' a=H a
theorem Ap.set:Ap b H (H.set b o):=λa n=>if_neg n
inductive Box(H:AH)(b:aK)(N:Int):Prop
 |mk(x y z:Int)(e:H b=some (.list [.int x,.int y,.int z]))(hx:0<=x/\x<10^120)(hy:0<=y/\y<2147483629)(hz:0<=z/\z<=N)
theorem Wt{x y z N many:Int}(hx:0<=x)(hy:0<=y/\y<2147483629)(hz:0<=z/\z<=N)(hN:N<=10^6)(hm:1<=many/\many<=1000):many≠0/\many.natAbs<1073741824/\0<=(y+40111*(z+1))/\(y+40111*(z+1)).natAbs<2^60/\z+1<=N+1/\0<=z+1:=by
 have k0:0<=40111*(z+1):=Int.mul_nonneg '#' (by lia);have k1:40111*(z+1)<=2^50:=bH (Int.mul_le_mul_of_nonneg_left (show z+1<=1000001 by show lin 0x3d862b0b6600ca3f4cc003d0904dda950 10536 tt hz hN) '#') (dte tt);show{by show lin 0x3d9f470ac2de0eb148 295 tt hm,by lia,by lia,by lia,by show lin 0x1ec31585b32a6a950 296 tt hz,by lia}
theorem Rp(B:Box H b N)(hN:N<=10^6)(hm:1<=many/\many<=1000)(h:∀d H',0<=d->d<many->Box H' b (N+1)->Ap b H H'->K (.int d) H'):WC F.u ↑554 [↑b,.int many] H K:=by
 apply Y;obtain⟨x,y,z,e,hx,hy,hz⟩:=B;obtain⟨m0,m1,p0,p1,z1,z0⟩:=Wt hx.1 hy hz hN hm;have py:=λa=>fD (x:=a) m1;show Aw 48 rfl rfl ?_;have sx:∀{K:V->AH->Prop},K (.int x) H->G2 F.bd ↑b (.int 0) H K:=λk=>G2.list (w:=.int x) ⟨rfl,e⟩ '#' (dte tt) rfl k;show sx (bifD (λhp=>?_) λhp=>?_)
 .show sx (W2.mod m0 ?_);show(let K4:=_;let K5:=_;(?_:@evS _ _ _ _ K4 K5 _));show sx (W2.fdiv m0 (py _) ?_);show U3.list (w:=.int (x.fdiv many)) e '#' (show(0:Int)<3 by decide) (show 3<=2^40 by decide) ?_;apply Y;obtain⟨d0,d1,d2,d3⟩:=fdm hx.1 hm.1;show h (x.fmod many) _ d0 d1 {x.fdiv many,y,z,if_pos rfl,{d2,gB d3 hx.2},hy,hz.1,bH hz.2 (Int.le_add_one (bM _))} .set
 .show G2.w2 (G2.list (w:=.int z) ⟨rfl,e⟩ '#' '#' rfl ?_);show U3.list (w:=.int (z+1)) e '#' (show(2:Int)<3 by decide) (show 3<=2^40 by decide) ?_;apply @evS _ _ _ _ _ Y _;show G2.list (w:=.int y) {rfl,if_pos rfl} (dte tt) (dte tt) rfl ?_;show G2.list (w:=.int (z+1)) {rfl,if_pos rfl} '#' '#' rfl ?_;show W2.mul (.of_left (nle tt)) ?_;show W2.pow '#' (bH (Int.mul_le_mul_of_nonneg_right (gf.mpr (Nl p1)) '#') (dte tt)) ?_;show W2.mod (dte tt) ?_;show W2.fdiv (dte tt) (fD (nle tt)) ?_;apply @ev _ _ _ _ _ Y _;show W2.mod m0 ?_;obtain⟨d0,d1,c⟩:=fdm (fdm (fdm (x:=(y+40111*(z+1))^(3:Int).toNat) (m:=2147483647) (Int.pow_nonneg p0) (dte tt)).1 (m:=16) (dte tt)).2.2.1 hm.1;show h _ _ d0 d1 {x,y,z+1,if_pos rfl,hx,hy,z0,z1} λa n=>(if_neg n).trans rfl
end
section
set_option backward.match.sparseCases false
def cns(ns:List (bY×aY)):List (bY×aY)->List (bY×aY)
 |[]=>[]
 |(x,.free)::r=>(match nix ns x with
  |some (_,k)=>(x,k)
  |none=>(x,.globalExplicit))::cns ns r
 |p::r=>p::cns ns r
def csl(ns:List (bY×aY))(sl:List (Option V)):List (bY×aY)->List (Option V)
 |[]=>[]
 |(x,.free)::r=>(match nix ns x with
  |some (i,_)=>gs sl i
  |none=>none)::csl ns sl r
 |_::r=>none::csl ns sl r
def okN(ns:List (bY×aY)):List (bY×aY)->Bool
 |[]=>true
 |(x,.free)::r=>(match nix ns x with
  |some (_,.cell)=>true
  |some (_,.free)=>true
  |_=>false)&&okN ns r
 |(_,.local)::r=>okN ns r
 |(_,.globalImplicit)::r=>okN ns r
 |_=>false
def okC(ns:List (bY×aY))(sc:nE):Bool:=okN ns sc.names&&(decide (sc.kind=.function)&&(Fv (sc.names.map (·.1))&&sc.names.all λp=>nmOk p.1))
variable{ns:List (bY×aY)}{sl:List (Option V)}
theorem okN_l:∀{l:List (bY×aY)},okN ns l=true->CompL (lc ns sl) l (lc (cns ns l) (csl ns sl l)):=by
 intro l9
 induction l9 with
 |nil=>intro z1;show .nil
 |cons x9 r ih =>
  intro h;obtain⟨x,k⟩:=x9
  induction k using PySem.NameKind.casesOn with
  |«local»=>show .loc (ih h)
  |globalImplicit=>show .glob (ih h)
  |free=>
   apply Y;obtain⟨h1,h2⟩:=aT.mp (show((match nix ns x with
    |some (_,.cell)=>true
    |some (_,.free)=>true
    |_=>false)&&okN ns r)=true from h)
   have t:=ih h2;change CompL _ _ (lc ((match nix ns x with
    |some (_,k)=>(x,k)
    |none=>(x,.globalExplicit))::cns ns r) ((match nix ns x with
    |some (i,_)=>gs sl i
    |none=>none)::csl ns sl r))
   induction e:nix ns x using Option.casesOn with
   |none=>rw[e]at h1;show ff h1
   |some p=>
    obtain⟨i,k⟩:=p;rw[e]at h1;have mm:=Ah (sl:=sl) e;clear e;induction k using PySem.NameKind.casesOn with
    |cell=>show .free mm (.inl rfl) t
    |free=>show .free mm (.inr rfl) t
    |_=>show ff h1
  |_=>show ff h
theorem Rq(h:okC ns sc=true):Oa (lc ns sl) sc (lc (cns ns sc.names) (csl ns sl sc.names)):=by
 apply Y;obtain⟨h1,h⟩:=aT.mp h;obtain⟨h2,h⟩:=aT.mp h;obtain⟨h3,h4⟩:=aT.mp h;show{okN_l h1,dte h2,h3,h4}
theorem Mb{ns:List (bY×aY)}:∀{sl:List (Option V)}{i:Nat},gs sl i=none->Kn (lc ns sl) (lc ns (ss sl i v)):=by
 induction ns with
 |nil=>show λ{sl i}_ x k w h=>h
 |cons q r ih=>
  have no:∀{x:bY}{k:aY}{w:V}{l:Loc},(x,k,some w)∈(q.1,q.2,none)::l->(x,k,some w)∈l:=λ{x k w l}h=>(aS.mp h).resolve_left λe=>by injection e with e8 e7;injection e7 with e7 e6;show nomatch e6
  intro sl i h x k w hm;rcases sl with _|⟨u,sl⟩
  .apply @jU _ _ _ _ Y;rcases i with _|i
   .show .tail _ (no hm)
   .show .tail _ (ih (sl:=[]) (i:=i) rfl x k w (no hm))
  .rcases i with _|i
   .rw[show u=none from h]at hm;show .tail _ (no hm)
   .apply @jU _ _ _ Y _;rcases aS.mp hm with e|hm
    .rw[e];show .head _
    .show .tail _ (ih (sl:=sl) (i:=i) h x k w hm)
variable{F:Fx}{H:AH}{K:V->AH->Prop}
theorem WCo.nm{j:Nat}(J:Sq->Nat->List V->AH->Prop)(ok:okC ns sc=true)(ix:nix (cns ns sc.names) x=some (j,.local))(hg:gs (csl ns sl sc.names) j=none)(hs:∀env x,bN iter env x=pure x)
  (h:WI F (lc ns sl) H iter λsq H1=>Fits sq (.Name x np)/\J sq 0 [] H1) (hst:∀sq i xs H',J sq i xs H'->sq.stays H'/\xs.length<=2^20)
  (step:∀sq i xs H' v,J sq i xs H'->sq.at i=some v->WTs F.cm (lc (cns ns sc.names) (ss (csl ns sl sc.names) j v)) H' ifs λb H3=>bif b then WE F.cm (lc (cns ns sc.names) (ss (csl ns sl sc.names) j v)) H3 elt λw H4=>J sq (i+1) (xs++[w]) H4 else J sq (i+1) xs H3)
  (fin:∀sq i xs H',J sq i xs H'->sq.at i=none->KL xs H'):WCo F (lc ns sl) H (.ListComp elt [{.Name x np,iter,ifs,0}] sc pos) iter sc KL:=
 .one J (Rq ok) hs h hst (λsq i xs H' v hj e=>.name (Bc ix) (.inl rfl) (λc c h=>absurd h aD) {Mb hg,step sq i xs H' v hj e}) fin
theorem exE(g:GtOk G){ex:Ex}(t:tr ns G 50 false e=ex)(h:ev F ns 60 ex sl H K):WE F (lc ns sl) H e K:=(Wq g 50).1 60 e sl H K (t▸h)
theorem exT(g:GtOk G){ex:Ex}{KB:Bool->AH->Prop}(t:tr ns G 50 true e=ex)(h:ev F ns 60 ex sl H (evB KB)):WT F (lc ns sl) H e KB:=(Wq g 50).2 60 e sl H KB (t▸h)
end
section
variable{F:Fx}{H:AH}{K:V->AH->Prop}
structure Rise(ns:List Int)(n:Int):Prop where
 u:ns.Pairwise (· < ·)
 lt:∀x∈ns,0<=x/\x<n
theorem Rise.more(h:Rise ns n):Rise ns (n+1):={h.u,λx hx=>{(h.lt x hx).1,qp (h.lt x hx).2 (qV n)}}
theorem Rise.snoc(h:Rise ns n)(h0:0<=n):Rise (ns++[n]) (n+1):=by
 show{mR.mpr {h.u,List.pairwise_singleton ..,λx hx y hy=>?_},λx hx=>?_}
 .cases aP.mp hy;show(h.lt x hx).2
 .rcases aZ.mp hx with hx|hx
  .show h.more.lt x hx
  .cases aP.mp hx;show{h0,qV n}
inductive SomeJ(H:AH)(b:aK)(N:Int)(k:Nat)(sq:Sq)(i:Nat)(xs:List V)(H':AH):Prop
 |mk(ns:List Int)(e:sq=.rng 0 1 k)(hx:xs=ns.map .int)(r:Rise ns i)(hl:ns.length<=i)(hi:i<=k)(B:Box H' b (N+i))(p:Ap b H H')
theorem Dd(e:(Sq.rng a c k).at i=some v):i<k/\v=.int (a+i*c):=by
 by_cases h:i<k
 .rw[show(Sq.rng a c k).at i=some (.int (a+i*c)) from if_pos h]at e;injection e with e;subst e;show⟨h,rfl⟩
 .rw[show(Sq.rng a c k).at i=none from if_neg h]at e;show fn e
theorem Ct(e:(Sq.rng a c k).at i=none):k<=i:=by
 by_cases h:i<k
 .rw[show(Sq.rng a c k).at i=some (.int (a+i*c)) from if_pos h]at e;contradiction
 .show g8.mp h
theorem Nm(h:0<=m):Eg 0 m 1=m.toNat:=by
 unfold Eg;split
 .rw[Int.ediv_one];congr 1;show lin 974283583816 7175 tt
 .show lin 0x10696ce2d02b0d89 344162625 tt ‹_› (bD h)
theorem Wu(B:Box H b N)(hN:N+many<=10^6)(hm:0<=many/\many<=1000)(h:∀ns H',Rise ns many->Box H' b (N+many)->Ap b H H'->K (.list (ns.map .int)) H'):WC F.u.u ↑559 [↑b,.int many] H K:=by
 have hk:Eg 0 many 1=many.toNat:=Nm hm.1;show Aw 49 rfl rfl ?_;apply @evS _ _ _ _ _ Y _;show WE.co (WCo.nm (j:=1) (SomeJ H b N many.toNat) tt rfl rfl (λc c=>rfl) ?_ (λsq i xs H' j=>?_) (λsq i xs H' v j e=>?_) λsq i xs H' j e=>?_)
 .apply @WI _ _ _ _ Y;show WI.be Ia (.cons (λc c=>rfl) .nil) (Ah (i:=2) rfl) (.cons (λc c=>rfl) (exE (ex:=.loc 1) Al rfl (.nil (WIc.d9 (by show{by show lin 0x7b3e8e1585b30a5e85023f48 295 tt hm,by show lin 0x1ecfa385616cc0a047e948 296 tt hm}) {.rng,[],congrArg _ hk,rfl,{.nil,λc h=>absurd h aD},bC _,bV _,?_,λc c=>rfl}))));rw[show N+((0:Nat):Int)=N from ci N];show B
 .apply Y;obtain⟨ns,rfl,rfl,r,hl,hi,B,p⟩:=j;show{trivial,by rw[aA];show lin 0x7b3e8e1585b24614886e2d049d04b 14002472 tt hm hl hi (bD hm.1)}
 .obtain⟨ns,rfl,rfl,r,hl,hi,B,p⟩:=j;obtain⟨hi',rfl⟩:=Dd e;show(let K1:=_;let K4:=_;(?_:@WTs _ K1 _ _ K4));show .one (exT (ex:=.cmp .Eq (.call ↑554 ['D','c']) 'b') Al rfl ?_);apply @ev _ _ _ _ Y _ _;show Rp (F:=F.cm) B (lin 0x600ca3f6462a44171a82600ca3f6540952 369927 tt hN hi (bD hm.1)) (dte tt) λd H2 d0 d1 B2 p2=>?_;have B3:Box H2 b (N+((i+1:Nat):Int)):=by rw[gr,<- fO];show B2
  have p3:Ap b H H2:=λa n=>(p2 a n).trans (p a n);show bifB (λc=>?_) λc=>{ns,rfl,rfl,by rw[gr];show r.more,iB hl,hi',B3,p3};show exE (ex:=.loc 1) Al rfl ?_;show{ns++[(i:Int)],rfl,?_,by rw[gr];show r.snoc (cr i),by rw[aV];show gX hl,hi',B3,p3};rw[aJ,fF,dH];rfl
 .obtain⟨ns,rfl,rfl,r,hl,hi,B,p⟩:=j;have hi2:((i:Nat):Int)=many:=by have:=Ct e;show lin 0x48829089c5a09c5a04a 12155104551 tt hi this (bD hm.1)
  rw[hi2]at r B;show h ns H' r B p
variable{l:List (aK×AObj)}
noncomputable abbrev Ext (H H':AH):Prop:=∀a o,H a=some o->H' a=some o
theorem Ext.new{a:aK}(e:Ext H H')(n:H a=none):Ext H (H'.set a o):=λb p h=>(if_neg λy=>by rw[y,n]at h;show absurd h.symm (aF _)).trans (e b p h)
theorem Ext.del(e:Ext H H')(n:H a=none):Ext H (H'.del a):=λb p h=>(if_neg λy=>by rw[y,n]at h;show absurd h.symm (aF _)).trans (e b p h)
theorem HL.ext(h:HL H l)(e:Ext H H'):HL H' l:={λq hq=>e _ _ (h.at_ q hq),h.nd}
theorem Ib(X:String):[lN 39,.type "ValueError",.type "Exception",.type "BaseException",.type "object"].contains (.type X)=[qh "ValueError",.type "Exception",.type "BaseException",.type "object"].contains (.type X):=by
 rw[iX];rfl
structure ExK(c f:aK):Prop where
 x:ExcF c f
 cl:StF c
 r:AtF c "reason"
 w:AtF c "writes"
 rs:RsF c
theorem Mc:ExK 76 36:={{dte tt,λP=>.mk (bm:=[↑39,.type "ValueError",.type "Exception",.type "BaseException",.type "object"]) rfl Ib,λP S x=>⋯,λP=>rfl,λP=>rfl},{λP=>rfl,λP=>rfl,λP=>rfl},λP=>⋯,λP=>⋯,{λP=>rfl,λP=>rfl}}
theorem F6:ExK 52 36:={{dte tt,λP=>.mk (bm:=[↑39,.type "ValueError",.type "Exception",.type "BaseException",.type "object"]) rfl Ib,λP S x=>⋯,λP=>rfl,λP=>rfl},{λP=>rfl,λP=>rfl,λP=>rfl},λP=>⋯,λP=>⋯,{λP=>rfl,λP=>rfl}}
theorem G1:ExK 95 92:={{dte tt,λP=>.mk (bm:=[↑39,.type "ValueError",.type "Exception",.type "BaseException",.type "object"]) rfl Ib,λP S x=>⋯,λP=>rfl,λP=>rfl},{λP=>rfl,λP=>rfl,λP=>rfl},λP=>rfl,λP=>rfl,{λP=>rfl,λP=>rfl}}
theorem Md:BltF "ValueError" (.type "ValueError"):={λP=>rfl,λP=>⋯,rfl}
noncomputable abbrev exSet (H:AH) (a c d:aK) (n:bY) (v:V):AH:=(H.set d (.aa [(n,v)])).set a (.inst c (some d))
theorem Oe(E:ExK c f)(e:H a=some (.inst c none))(h:∀d,H d=none->K .none (exSet H a c d "reason" v)):WC F.u ↑36 [↑a,v] H K:=by
 show Aw 0 rfl rfl ?_;apply @evS _ _ _ _ _ Y _;show WE.fo (.cons (λb b=>rfl) (.cons (λb b=>rfl) .nil)) (nle tt) rfl (Ah (i:=2) rfl) Md (.cons (λb b=>rfl) (exE (ex:=.loc 0) Al rfl (.cons (λb b=>rfl) (exE (ex:=.loc 1) Al rfl (.nil (WC.fo E.x e ?_))))));show .first a c rfl e E.x.mem E.cl E.r h
theorem exc_ok(E:ExK c 36)(h:∀x d H',H x=none->H d=none->H' x=some (.inst c (some d))->Ext H (H'.del x)->K ↑x H'):WC F.u.u ↑c [v] H K:=by
 show WC.newX E.x λx hx=>Oe E (if_pos rfl) λd hd=>{rfl,?_};have hd':=(if_neg (fQ (λy=>by subst y;rw[show(H.set x (AObj.inst c none)) x=some (.inst c none) from if_pos rfl]at hd;show absurd hd (aF _)))).symm.trans hd;show h x d _ hx hd' (if_pos rfl) ((Ext.new (Ext.new (Ext.new (λb b e=>e) hx) hd') hx).del hx)
theorem He(E:ExK c 36)(h:∀H',Ext H H'->F.KX c H'):WC F.u.u ↑c [v] H λw H1=>Rh F.u.u H1 w:=
 exc_ok E λx d H' a a e ex=>{x,c,some d,rfl,e,E.x.mem,E.rs,h _ ex}
theorem Me:Ff "BoardError" ↑39:=⟨λP=>rfl⟩
theorem Ps(e:H a=some (.inst 95 none))(hi:i.natAbs.log2<1920)
  (h:∀d t,H d=none->K .none ((exSet H a 95 d "reason" (.str t)).set d (.aa [("reason",.str t),("writes",.int i)]))):WC F.u.u ↑92 [↑a,.int i] H K:=by
 show Aw 1 rfl rfl ?_;show WE.binit (.cons (λb b=>rfl) (.cons (λb b=>rfl) .nil)) (nle tt) rfl (Ah (i:=2) rfl) Me (.cons (λb b=>rfl) (exE (ex:=.loc 0) Al rfl (.cons (λb b=>rfl) ?_)));show(let K4:=_;(?_:@WE _ _ _ _ K4));show WE.fstr (nle tt) (nle tt) (exE (ex:=.loc 1) Al rfl {i,rfl,hi,λt=>.nil ?_});show Oe (F:=F.bd) G1 e λd hd=>?_;show .mk a 95 d _ rfl (if_pos rfl) ((if_neg (λy=>by rw[y,e]at hd;show absurd hd (aF _))).trans (if_pos rfl)) G1.cl G1.w (nle tt:(1:Nat)<=900) (h d t hd)
theorem Ic(hi:i.natAbs.log2<1920)(h:∀H',Ext H H'->F.KX 95 H'):WC F.u.u.u ↑95 [.int i] H λw H1=>Rh F.u.u.u H1 w:=by
 show WC.newX G1.x λx hx=>Ps (if_pos rfl) hi λd t hd=>{rfl,?_};have nx:x≠d:=λy=>by subst y;rw[show(H.set x (AObj.inst 95 none)) x=some (.inst 95 none) from if_pos rfl]at hd;show absurd hd (aF _)
 have hd':=(if_neg (fQ nx)).symm.trans hd;show{x,95,some d,rfl,(if_neg nx).trans (if_pos rfl),dte tt,G1.rs,h _ ((Ext.new (Ext.new (Ext.new (Ext.new (λb b e=>e) hx) hd') hx) hd').del hx)}
theorem Bb:ClsF 316:={{λP=>rfl,λP=>rfl,λP=>rfl},λP=>rfl,λP=>rfl}
theorem Rr:MkF 316 236:={λP=>rfl,λP=>rfl,λP=>rfl}
theorem Ay:ClsF 433:={{λP=>rfl,λP=>rfl,λP=>rfl},λP=>⋯,λP=>⋯}
theorem Ue:MkF 433 334:={λP=>rfl,λP=>rfl,λP=>rfl}
theorem Aj:ClsF 529:={{λP=>rfl,λP=>rfl,λP=>rfl},λP=>⋯,λP=>⋯}
theorem Wv:MkF 529 451:={λP=>tt,λP=>rfl,λP=>rfl}
theorem A6:ClsF 218:={{λP=>rfl,λP=>rfl,λP=>rfl},λP=>rfl,λP=>rfl}
theorem Pt:MkF 218 131:={λP=>tt,λP=>rfl,λP=>rfl}
def By(c:Nat)(n:bY):Nat×bY:=(c,n)
def Br(c:Nat)(n:bY)(f:Nat):Nat×bY×Nat:=(c,n,f)
def Ww:List (Nat×bY):=By 316 "number"::By 316 "data"::By 316 "holders"::By 316 "pins"::By 433 "disk"::By 433 "most"::By 433 "size"::By 433 "row"::By 433 "by_number"::By 433 "hits"::By 433 "reads"::By 433 "writes"::By 529 "blocks"::By 529 "size"::By 529 "kept"::By 529 "latest"::By 529 "unflushed"::By 529 "writes"::By 529 "flushes"::By 529 "last"::By 529 "last_flush"::By 529 "is_dead"::By 218 "cache"::By 218 "start"::By 218 "size"::By 218 "places"::By 218 "most"::By 218 "each"::By 218 "numbers"::By 218 "noted"::By 218 "calls"::By 218 "commits"::[]
def Wx:List (Nat×bY×Nat):=Br 316 "is_free" 243::Br 316 "octets" 250::Br 316 "fill" 278::Br 433 "need_block" 341::Br 433 "need_held" 348::Br 433 "get" 355::Br 433 "make_room" 362::Br 433 "release" 369::Br 433 "pin" 376::Br 433 "unpin" 383::Br 433 "write" 390::Br 433 "flush" 397::Br 433 "peek" 404::Br 433 "poke" 411::Br 433 "free_count" 423::Br 529 "need_power" 458::Br 529 "need_block" 465::Br 529 "read" 472::Br 529 "write" 479::Br 529 "fail" 486::Br 529 "flush" 493::Br 529 "stop_after" 500::Br 529 "stop_at_flush" 507::Br 529 "after" 514::Br 529 "image" 526::Br 218 "is_own" 138::Br 218 "has_room" 145::Br 218 "left" 152::Br 218 "begin" 159::Br 218 "write" 166::Br 218 "end" 173::Br 218 "commit" 180::Br 218 "fill_log" 187::Br 218 "write_head" 194::Br 218 "install" 201::Br 218 "pending" 208::Br 218 "recover" 215::[]
theorem aTabK:∀P,Ww.map (λe=>jJ (Am P) ↑e.1 e.2)=Ww.map λ_=>some none:=λP=>⋯
theorem mTabK:∀P,Wx.map (λe=>(jJ (Am P) ↑e.1 e.2.1,nL (Am P) ↑e.2.2,mn (Am P) ↑e.2.2))=Wx.map λe=>(some (some ↑e.2.2),some (.type "function"),true):=λP=>⋯
def aTabI(i:Nat):Nat×bY:=Ww[i]?.getD (By 316 "number")
def mTabI(i:Nat):Nat×bY×Nat:=Wx[i]?.getD (Br 316 "is_free" 243)
theorem A8(i:Nat):AtF (aTabI i).1 (aTabI i).2:=λP=>iu.mp (aTabK P) _ (Nj i (.head _))
theorem Ao(i:Nat)(e:mTabI i=(c,n,f)):MtF c n f:=
 have k:=λP=>eX (iu.mp (mTabK P) (c,n,f) (e▸Nj i (.head _)))
 {λP=>(k P).1,λP=>(eX (k P).2).1,λP=>(eX (k P).2).2}
end
section
noncomputable abbrev Oct:=List UInt8
structure DS where
 blocks:Int
 size:Int
 kept:List (Int×Oct)
 ah:List (Int×Oct)
 ar:List (Int×Oct)
 writes:Int
 ag:Int
 last:Option Int
 ax:Option Int
 dead:Bool
def Ax(m:List (Int×Oct)):List (Int×V):=m.map λp=>(p.1,.bytes p.2)
def unV(m:List (Int×Oct)):List V:=m.map λp=>.tup [.int p.1,.bytes p.2]
structure DA where
 a:aK
 d:aK
 k:aK
 l:aK
 u:aK
def oV:Option Int->V
 |some i=>.int i
 |none=>.none
def DS.names(s:DS)(x:DA):List (bY×V):=[("blocks",.int s.blocks),("size",.int s.size),("kept",.ref x.k),("latest",.ref x.l),("unflushed",.ref x.u),("writes",.int s.writes),("flushes",.int s.ag),
 ("last",oV s.last),("last_flush",oV s.ax),("is_dead",.bool s.dead)]
def DS.objs(s:DS)(x:DA):List (aK×AObj):=[(x.a,.inst 529 (some x.d)),(x.d,.aa (s.names x)),(x.k,.ae (Ax s.kept)),(x.l,.ae (Ax s.ah)),(x.u,.list (unV s.ar))]
structure DS.Ok(s:DS):Prop where
 blocks:1<=s.blocks/\s.blocks<=100
 size:s.size=16
 w:0<=s.writes/\s.writes<=10^6
 f:0<=s.ag/\s.ag<=10^6
 kept:s.kept.length<=100
 ah:s.ah.length<=100
 ar:s.ar.length<=10^5
theorem Mf{i:Int}(h:0<=i/\i<=10^6):i.natAbs.log2<1920:=by
 by_cases e:i.natAbs=0
 .rw[e];decide
 .show(qT e).mpr (dW (show i.natAbs<=10^6 by show lin 0x7b00651fa5616ce2d02901947e849 11560 tt h (jm h.1)) (ip (show 10^6<2^20 by decide) (Nat.pow_le_pow_right '#' (nle tt))))
variable{F:Fx}{H:AH}{K:V->AH->Prop}{rest:List (aK×AObj)}{s:DS}{x:DA}
theorem E0(h:HL H (s.objs x++rest))(so:s.Ok)(hx:s.dead=true->∀H',Ext H H'->F.KX 95 H')(hk:s.dead=false->K .none H):WC F.u.u.u.u ↑458 [↑x.a] H K:=by
 show Aw 36 rfl rfl ?_;show Aa.at h 0 1 rfl rfl Aj (A8 21) rfl ?_;show bifB (λe=>Aa.at h 0 1 rfl rfl Aj (A8 17) rfl (Ic (F:=F.bd) (Mf so.w) (hx e))) hk
theorem G3(h:HL H (s.objs x++rest))(hn:0<=n/\n<s.blocks)(hk:K .none H):WC F.u ↑465 [↑x.a,.int n] H K:=by
 apply @WC _ _ Y _ _;show Aw 37 rfl rfl ?_;show WE.isint Ej Wr (λb b=>rfl) (Ah (i:=2) rfl) (Ah (i:=3) rfl) (exE (ex:=.loc 1) Al rfl {?_,n,rfl});apply @evB Y _ _;show bifD (λb=>Aa.at h 0 1 rfl rfl Aj (A8 12) rfl ?_) λe=>absurd hn.1 e;change bif !decide (n<s.blocks) then _ else _;simp only[decide_eq_true hn.2];show hk
section
variable{κ α β:Type}[DecidableEq κ]{f:α->β}{j k:κ}{v b:α}{r:List (κ×α)}
theorem E1(e:j=k):lget ((j,v)::r) k=some v:=if_pos e
theorem De(e:¬ j=k):lget ((j,v)::r) k=lget r k:=if_neg e
theorem Fi(e:j=k):lput ((j,v)::r) k b=(j,b)::r:=if_pos e
theorem Fj(e:¬ j=k):lput ((j,v)::r) k b=(j,v)::lput r k b:=if_neg e
theorem Of:∀{m:List (κ×α)},lget (m.map λp=>(p.1,f p.2)) k=(lget m k).map f:=by
 intro l9
 induction l9 with
 |nil=>show rfl
 |cons x9 r ih =>
  obtain⟨j,v⟩:=x9;rcases bB (j=k) with e|e
  .rw[fA,E1 e,E1 e];rfl
  .rw[fA,De e,De e];show ih
theorem Og:∀{m:List (κ×α)},lput (m.map λp=>(p.1,f p.2)) k (f b)=(lput m k b).map λp=>(p.1,f p.2):=by
 intro l9
 induction l9 with
 |nil=>show rfl
 |cons x9 r ih =>
  obtain⟨j,v⟩:=x9;rcases bB (j=k) with e|e
  .rw[fA,Fi e,Fi e];rfl
  .rw[fA,Fj e,Fj e,ih];rfl
end
theorem Dq{k:Int}:lget (Ax m) k=(lget m k).map .bytes:=Of
theorem Ek{k:Int}{b:Oct}:lput (Ax m) k (.bytes b)=Ax (lput m k b):=Og
noncomputable abbrev Bo:Oct:=bO 16 0
def DS.at_(s:DS)(n:Int):Oct:=(lget s.ah n).getD Bo
theorem Rs(h:HL H (s.objs x++rest))(so:s.Ok)(hn:0<=n/\n<s.blocks)(hx:s.dead=true->∀H',Ext H H'->F.KX 95 H')(hk:s.dead=false->K (.bytes (s.at_ n)) H):WC F.u.u.u.u.u ↑472 [↑x.a,.int n] H K:=by
 apply @WC _ _ Y _ _;show Aw 38 rfl rfl ?_;show Av.at h 0 1 rfl rfl Aj (Ao 15 rfl) rfl (E0 (F:=F.bd) h so hx λe=>?_);show Av.at h 0 1 rfl rfl Aj (Ao 16 rfl) rfl (G3 (F:=F.bd.u.u.u) h hn ?_);show Aa.at h 0 1 rfl rfl Aj (A8 15) rfl ?_;show .blt "dict.get" (Gm.ae cB rfl (.own (h.get 3 rfl))) ?_;show(let K0:=_;let K3:=_;(?_:@evL K0 _ _ K3));show Aa.at h 0 1 rfl rfl Aj (A8 13) rfl ?_;apply @evL Y _ _ _;rw[so.size];show WC.b9 (dte tt) (dte tt) ?_;show WC.dh (.own (h.get 3 rfl)) ?_;rw[Dq];have hk:=hk e;unfold DS.at_ at hk;rcases e:lget s.ah n<;>rw[e]at hk<;>show hk
theorem Rt(h:HL H (s.objs x++rest))(so:s.Ok)(hx:∀H',HL H' (({s with dead:=true}:DS).objs x++rest)->F.KX 95 H'):WC F.u.u.u.u ↑486 [↑x.a] H K:=by
 show Aw 40 rfl rfl ?_;show SetP.at h 0 1 rfl rfl Aj.toStF (A8 21) (nle tt:10<=900) λh2=>?_;show Aa.at h2 0 1 rfl rfl Aj (A8 17) rfl (Ic (F:=F.bd) (Mf so.w) λH' e=>hx H' (h2.ext e))
theorem WE.fx{x y:bY}(G:BltF x (.builtin "isinstance"))(Gi:BltF y (.type "int"))(hs:F3 e)(hm:(x,.globalImplicit,ov)∈m)(hy:(y,.globalImplicit,ov')∈m)
  (h:WE F m H e λv H1=>K (.bool false) H1/\∃b,v=.bytes b):WE F m H (.Call (.Name x np) [e,.Name y yp] [] pos) K:=by
 intro D t P s ok;apply @A2 _ _ _ _ Y _ _;show Ar (G.load hm ok (Cd (P:=λa=>True) (by rw[Cj (.cons hs (.cons (λa a=>rfl) .nil))];rfl) (λh a=>{.machine,.inr (.inl rfl),.of_pure G.fv}) ?_));apply @A2 _ _ _ _ Y _ _;rw[hs];show Bz ?_;change A2 _ _ (do
  let v <- ch e D.env;let here <- (pure [v]:kh (List aL))
  return here++(<- cN here (kW (hH pos (eK [.Name y yp] D.env))))) _ _ _
 show A0 (h.seq ok λz s₁ v H₁ P1⟨k,i,e1⟩ok1=>?_);subst e1;obtain⟨a,e9⟩:=ok1.top;rw[e9];show A0 (A1 (A0 (A3 ?_)));apply @A2 _ _ _ _ Y _ _;change A2 _ _ (do
  let v <- ch (.Name y yp) D.env;let here <- (pure [v]:kh (List aL))
  return here++(<- cN here (pure []))) _ _ _
 show A0 (Gi.load hy ok1 (A0 (A1 (A0 (A3 (A1 (A1 (A1 {trivial,?_}))))))));show lf <| call_isinstance (S:=λa R s=>R (.ok (.ret (.bool false))) {s with toks:=s.toks+1}) (λa a a a s hs=>?_) ((ok1.pop.toks _).bool k);obtain⟨h,g,d,t,os⟩:=s;show isinstance_outer (isinstance_nested_false_bytes rfl rfl (by rw[cD];kernel_rfl) hs)
theorem Rv(hk:K (.bytes b) H):WC F.u ↑540 [.bytes b] H K:=by
 show Aw 46 rfl rfl ?_;show WE.fx Ej Wr (λa a=>rfl) (Ah (i:=1) rfl) (Ah (i:=2) rfl) (exE (ex:=.loc 0) Al rfl {?_,b,rfl});show WS1.tryRet rfl rfl (exE (ex:=.call (.type "bytes") ['A']) Al rfl (WC.bytesY hk))
theorem AugP.add{a c d:aK}(h:HL H l)(p q:Nat)(e1:l[p]?=some (a,.inst c (some d)))(e2:l[q]?=some (d,.aa mm))(C:ClsF c)(T:AtF c n)(g:lget mm n=some (.int i))(hz:mm.length<=900)
  (hw:∀K:V->AH->Prop,K (.int j) H->w K) (hk:HL (H.set d (.aa (lput mm n (.int (i+j))))) (l.set q (d,.aa (lput mm n (.int (i+j)))))->k (H.set d (.aa (lput mm n (.int (i+j)))))):AugP F H ↑a n .Add w k:=
 {a,c,d,mm,.int i,rfl,h.get p e1,h.get q e2,C,T,g,hw _ (.iadd {mm,h.get p e1,h.get q e2,hz,hk (h.set q _ e2)})}
def gone(l:Option Int)(n:Int):Bool:=match l with
 |some k=>decide (k<=n)
 |none=>false
def DS.wr(s:DS)(n:Int)(b:Oct):DS:={s with writes:=s.writes+1,ah:=lput s.ah n b,ar:=s.ar++[(n,b)]}
theorem Rw{n:Int}{b:Oct}:unV m++[.tup [.int n,.bytes b]]=unV (m++[(n,b)]):=by unfold unV;simp only[aJ];rfl
theorem Uf(h:HL H (s.objs x++rest))(so:s.Ok)(hn:0<=n/\n<s.blocks)(hb:b.length=16)(hd:s.dead=true->∀H',Ext H H'->F.KX 95 H')
  (hc:s.dead=false->gone s.last s.writes=true->∀H',HL H' (({s with dead:=true}:DS).objs x++rest)->F.KX 95 H') (hk:s.dead=false->gone s.last s.writes=false->∀H',HL H' ((s.wr n b).objs x++rest)->K .none H') :
  WC F.u.u.u.u.u ↑479 [↑x.a,.int n,.bytes b] H K:=by
 apply @WC _ _ Y _ _;show Aw 39 rfl rfl ?_;show Av.at h 0 1 rfl rfl Aj (Ao 15 rfl) rfl (E0 (F:=F.bd) h so hd λed=>?_);show Av.at h 0 1 rfl rfl Aj (Ao 16 rfl) rfl (G3 (F:=F.bd.u.u.u) h hn ?_);show Rv (F:=F.bd.u.u.u) ?_;show WC.lenY (lin 0x5e42907847e841 295 tt hb) (Aa.at h 0 1 rfl rfl Aj (A8 13) rfl ?_);simp only[so.size,hb];have go:gone s.last s.writes=false->evS F.u.u.u.u.bd (A9 (cst 19 4)).names K (.cb 'A' "writes" .Add 'b' (.bq (.attr 'A' "latest") 'B' 'D' (.expr (.af (.attr 'A' "unflushed") "append" [(.tup ['B','D'])]) .done))) (λc H'=>K .none H') [some ↑x.a,some (.int n),some (.bytes b),some (.bytes b)] H:=λeg=>by
  apply @evS _ _ _ _ _ Y _;show AugP.add h 0 1 rfl rfl Aj (A8 17) rfl (nle tt:10<=900) (λc k=>k) λh1=>?_;show Aa.at h1 0 1 rfl rfl Aj (A8 15) rfl ?_;show U3.ae (h1.get 3 rfl) (by unfold Ax;rw[aA];have:=so.ah;show aC ‹_› (nle rfl)) ?_;rw[Ek];have h2:HL _ (({s with writes:=s.writes+1,ah:=lput s.ah n b}:DS).objs x++rest):=h1.set 3 (.ae (Ax (lput s.ah n b))) rfl;show Aa.at h2 0 1 rfl rfl Aj (A8 16) rfl ?_;show .blt "list.append" (Gm.list cI rfl ({rfl,h2.get 4 rfl})) {(nle tt:2<=2^20),?_};show WC.append (h2.get 4 rfl) (by change(unV s.ar).length<=_;unfold unV;rw[aA];have:=so.ar;show aC ‹_› (nle rfl)) ?_;simp only[Rw];show hk ed eg _ (h2.set 4 (.list (unV (s.ar++[(n,b)]))) rfl)
 show Aa.at h 0 1 rfl rfl Aj (A8 19) rfl ?_
 induction el:s.last using Option.casesOn with
 |none=>show W2.b8 (go (by rw[el];rfl))
 |some k=>
  show W2.b8 (Aa.at h 0 1 rfl rfl Aj (A8 17) rfl (Aa.at h 0 1 rfl rfl Aj (A8 19) rfl ?_));rw[el];show bifD (λe=>?_) λe=>go (by rw[el];show decide_eq_false e);show Av.at h 0 1 rfl rfl Aj (Ao 19 rfl) rfl (Rt (F:=F.bd) h so (hc ed (by rw[el];show decide_eq_true e)))
def lay(m:List (Int×Oct))(r:List (Int×Oct)):List (Int×Oct):=r.foldl (λm p=>lput m p.1 p.2) m
def DS.fl(s:DS):DS:={s with ag:=s.ag+1,kept:=lay s.kept s.ar,ar:=[]}
inductive FlJ(rest:List (aK×AObj))(s:DS)(x:DA)(ns:List (bY×aY))(sq:Sq)(i:Nat)(m:Loc)(H':AH):Prop
 |mk(sl:List (Option V))(hm:m=lc ns sl)(h0:gs sl 0=some ↑x.a)(e:sq=.vals (some x.u) (unV s.ar))(hi:i<=s.ar.length)(h:HL H' (({s with ag:=s.ag+1,kept:=lay s.kept (s.ar.take i)}:DS).objs x++rest))
theorem Ug{m:List (Int×Oct)}{k:Int}{b:Oct}:(lput m k b).length<=m.length+1:=by
 induction m with
 |nil=>show bC _
 |cons p r ih=>
  rcases bB (p.1=k) with e|e
  .rw[show lput (p::r) k b=(p.1,b)::r from if_pos e];show jS _
  .rw[show lput (p::r) k b=p::lput r k b from if_neg e];show gX ih
theorem Rx{r:List (Int×Oct)}:∀{m:List (Int×Oct)},(lay m r).length<=m.length+r.length:=by
 induction r with
 |nil=>show bC _
 |cons p r ih=>intro m;show aC (ih (m:=lput m p.1 p.2)) (by have:=Ug (m:=m) (k:=p.1) (b:=p.2);simp only[cK];show lin 0x13518532a88721043 263 tt this)
theorem Uh{m r:List (Int×Oct)}(e:r[i]?=some p):lay m (r.take (i+1))=lput (lay m (r.take i)) p.1 p.2:=by
 unfold lay;simp only[cE,e,fP];rfl
theorem Dr{F:Fx}{ns:List (bY×aY)}{n i:Nat}(e:gs sl i=some v)(k:K v H):ev F ns (n+1) (.loc i) sl H K:=by
 change(match gs sl i with
  |some v=>K v H
  |none=>False)
 show e▸k
theorem Wy{x:bY}(k:ev F ns n a sl H λv H1=>Aa H1 v x K):ev F ns (n+1) (.attr a x) sl H K:=k
theorem Pu{v:V}:∀{sl:List (Option V)}{i:Nat},gs (ss sl i v) i=some v
 |[],0=>rfl
 |[],i+1=>Pu (sl:=[]) (i:=i)
 |_::_,0=>rfl
 |_::r,i+1=>Pu (sl:=r) (i:=i)
theorem Ry{v:V}:∀{sl:List (Option V)}{i j:Nat},j≠i->gs (ss sl i v) j=gs sl j
 |[],0,0,h=>absurd rfl h
 |[],0,j+1,_=>rfl
 |[],i+1,0,_=>rfl
 |[],i+1,j+1,h=>Ry (sl:=[]) (i:=i) (j:=j) λe=>h (congrArg _ e)
 |_::_,0,0,h=>absurd rfl h
 |_::_,0,j+1,_=>rfl
 |_::_,i+1,0,_=>rfl
 |_::r,i+1,j+1,h=>Ry (sl:=r) (i:=i) (j:=j) λe=>h (congrArg _ e)
theorem exS{sl:List (Option V)}{st:St}{KN:List (Option V)->AH->Prop}(hk:F.keep=[])(hc:F.co=false)(t:trS ns gT 60 body=st)(h:evS F ns KR st KN sl H):WS F KR (lc ns sl) H body λm' H'=>∃sl',m'=lc ns sl'/\KN sl' H':=
 Jc Al hk hc 60 body sl H KN (t▸h)
theorem HL.dc{l1 l2:List (aK×AObj)}(h:HL H (l1++q::l2)):HL H (l1++l2):=by
 have sb:=qU (lJ l1) (List.sublist_cons_self q l2);show{λp hp=>h.at_ p (sb.subset hp),(sb.map _).nodup h.nd}
theorem Vt{i:Nat}(e:(unV m)[i]?=some v):∃p,m[i]?=some p/\v=.tup [.int p.1,.bytes p.2]:=by
 unfold unV at e;rw[bK,bF]at e;apply Y;obtain⟨p,e1,e2⟩:=e;show{p,e1,e2.symm}
theorem Ui(h:HL H (s.objs x++rest))(so:s.Ok)(hd:s.dead=true->∀H',Ext H H'->F.KX 95 H')
  (hc:s.dead=false->gone s.ax s.ag=true->∀H',HL H' (({s with dead:=true}:DS).objs x++rest)->F.KX 95 H') (hk:s.dead=false->gone s.ax s.ag=false->∀H' u,HL H' (s.fl.objs {x with u:=u}++rest)->K .none H') :
  WC F.u.u.u.u.u ↑493 [↑x.a] H K:=by
 show Aw 41 rfl rfl ?_;show Av.at h 0 1 rfl rfl Aj (Ao 15 rfl) rfl (E0 (F:=F.bd) h so hd λed=>?_);have go:gone s.ax s.ag=false->evS F.u.u.u.u.bd (A9 (cst 19 6)).names K (.cb 'A' "flushes" .Add 'b' (.raw (Ad [3] (A7 (cst 19 6))) (.b4 'A' "unflushed" (.list []) .done))) (λc H'=>K .none H') [some ↑x.a] H:=λeg=>by
  show AugP.add h 0 1 rfl rfl Aj (A8 18) rfl (by decide:10<=900) (λc k=>k) λh1=>?_;apply @evS _ _ _ _ _ _ Y;show WS1.for rfl (FlJ rest s x (A9 (cst 19 6)).names) (λc c=>rfl) ?_ ?_ ?_ ?_
  .apply @WI _ _ _ _ Y;show .list (exE (ex:=.attr 'A' "unflushed") Al rfl (Aa.at h1 0 1 rfl rfl Aj (A8 16) rfl {some x.u,unV s.ar,{rfl,h1.get 4 rfl},.valsT,{[some ↑x.a],rfl,rfl,rfl,bV _,h1}}))
  .rintro sq i m' H' ⟨sl,rfl,h0,rfl,hi,h⟩;show h.get 4 rfl
  .rintro sq i m' H' v ⟨sl,rfl,h0,rfl,hi,h⟩ e;apply @WG _ _ _ _ _ Y;obtain⟨⟨n,b⟩,e1,e9⟩:=Vt e;simp only[e9];show WG.tup (.cons (λc c=>rfl) (.cons (λc c=>rfl) .nil)) rfl (.cons (λc c=>rfl) (.name (k:=.local) (Bc (i:=1) rfl) (.inl rfl) (λc c h=>absurd h aD) (.cons (λc c=>rfl) (.name (k:=.local) (Bc (i:=2) rfl) (.inl rfl) (λc c h=>absurd h aD) (.nil ?_)))));show(exS (st:=.bq (.attr 'A' "kept") 'B' 'C' .done) (KN:=λsl' H'=>FlJ rest s x (A9 (cst 19 6)).names (.vals (some x.u) (unV s.ar)) (i+1) (lc (A9 (cst 19 6)).names sl') H') rfl rfl rfl ?_).mono λm' H' z9=>by obtain⟨sl',e,k⟩:=z9;show e▸k
   apply @evS _ _ _ _ Y _ _;show Dr Pu ?_;have g0:gs (ss (ss sl 1 (.int n)) 2 (.bytes b)) 0=some ↑x.a:=(Ry '#').trans ((Ry '#').trans h0);have g1:gs (ss (ss sl 1 (.int n)) 2 (.bytes b)) 1=some (.int n):=(Ry '#').trans Pu;show Wy (Dr g0 ?_);show Aa.at h 0 1 rfl rfl Aj (A8 14) rfl ?_;show Dr g1 ?_;show U3.ae (h.get 2 rfl) ?_ ?_
   .change(Ax (lay s.kept (s.ar.take i))).length<=_;unfold Ax;rw[aA];have:=Rx (m:=s.kept) (r:=s.ar.take i);have:=List.length_take_le i s.ar;have:=so.kept;have:=so.ar;show lin 0x4881d4c8830a41d22703480aa3f449d045 414524679 tt hi ‹_› ‹_› ‹_› this
   .simp only[Ek];show{_,rfl,g0,rfl,((aI.mp e1).1),?_};rw[Uh e1];show h.set 2 (.ae (Ax (lput (lay s.kept (s.ar.take i)) n b))) rfl
  .rintro sq i m' H' ⟨sl,rfl,h0,rfl,hi,h⟩ e;show{sl,rfl,(nle tt:0<=2^20),.own λu hu=>Dr h0 (SetP.at (h.new hu (.list [])) 1 2 rfl rfl Aj.toStF (A8 16) (by decide:10<=900) λh3=>hk ed eg _ u ?_)};have hl:s.ar.take i=s.ar:=by
    have this:=aO.mp e;unfold unV at this;rw[aA]at this;show bT this
   rw[hl]at h3;show HL.dc (l1:=[_,_,_,_,_]) (h3.perm (perm_middle (l₁:=[_,_,_,_])).symm)
 show Aa.at h 0 1 rfl rfl Aj (A8 20) rfl ?_
 induction el:s.ax using Option.casesOn with
 |none=>apply @ev _ _ _ _ _ _ Y;show W2.b8 (go (by rw[el];rfl))
 |some k=>
  show W2.b8 (Aa.at h 0 1 rfl rfl Aj (A8 18) rfl (Aa.at h 0 1 rfl rfl Aj (A8 20) rfl ?_));apply @dk _ _ _ _ _ Y;rw[el];show bifD (λe=>?_) λe=>go (by rw[el];show decide_eq_false e);show Av.at h 0 1 rfl rfl Aj (Ao 19 rfl) rfl (Rt (F:=F.bd) h so (hc ed (by rw[el];show decide_eq_true e)))
theorem Kf(h:HL H (s.objs x++rest))(hn:0<=n)(hk:∀H',HL H' (({s with last:=some (s.writes+n)}:DS).objs x++rest)->K .none H'):WC F.u ↑500 [↑x.a,.int n] H K:=by
 apply @WC _ _ Y _ _;show Aw 42 rfl rfl ?_;show bifD (λe=>absurd hn (gA.mpr e)) λb=>?_;show Aa.at h 0 1 rfl rfl Aj (A8 17) rfl ?_;show SetP.at h 0 1 rfl rfl Aj.toStF (A8 19) (nle tt:10<=900) (hk _)
theorem Kg(h:HL H (s.objs x++rest))(hn:0<=n)(hk:∀H',HL H' (({s with ax:=some (s.ag+n)}:DS).objs x++rest)->K .none H'):WC F.u ↑507 [↑x.a,.int n] H K:=by
 apply @WC _ _ Y _ _;show Aw 43 rfl rfl ?_;show bifD (λe=>absurd hn (gA.mpr e)) λb=>?_;show Aa.at h 0 1 rfl rfl Aj (A8 18) rfl ?_;show SetP.at h 0 1 rfl rfl Aj.toStF (A8 20) (nle tt:10<=900) (hk _)
def DS.new(n:Int):DS:={blocks:=n,size:=16,kept:=[],ah:=[],ar:=[],writes:=0,ag:=0,last:=none,ax:=none,dead:=false}
theorem Oh(h:HL H rest)(hn:1<=n)(hk:∀x H',HL H' ((DS.new n).objs x++rest)->K ↑x.a H'):WC F.u.u ↑529 [.int n,.int 16] H K:=by
 show WC.new Wv (dte tt) λa d ha hd ne=>Nk 35 rfl rfl ?_;have h0:=(h.new hd (.aa [])).new (a:=a) ((if_neg ne).trans ha) (.inst 529 (some d));show bifD (λe=>absurd hn (gA.mpr e)) λb=>?_;have S:=Aj.toStF;show SetP.at h0 0 1 rfl rfl S (A8 12) (nle tt:0<=900) λh1=>?_;apply @evS _ _ _ _ _ _ Y;show SetP.at h1 0 1 rfl rfl S (A8 13) (nle tt:1<=900) λh2=>?_;apply @evS _ _ _ _ _ _ Y;show .own (.ae []) (.inl rfl) λk hk0=>?_;show SetP.at (h2.new hk0 _) 1 2 rfl rfl S (A8 14) (nle tt:2<=900) λh3=>?_;apply @evS _ _ _ _ _ _ Y;show .own (.ae []) (.inl rfl) λl hl0=>?_;show SetP.at (h3.new hl0 _) 2 3 rfl rfl S (A8 15) (nle tt:3<=900) λh4=>?_;apply @evS _ _ _ _ _ _ Y;show{(nle tt:0<=2^20),.own λu hu0=>?_};show SetP.at (h4.new hu0 _) 3 4 rfl rfl S (A8 16) (nle tt:4<=900) λh5=>?_;apply @evS _ _ _ _ _ _ Y;show SetP.at h5 3 4 rfl rfl S (A8 17) (nle tt:5<=900) λh6=>?_;apply @evS _ _ _ _ _ Y _;show SetP.at h6 3 4 rfl rfl S (A8 18) (nle tt:6<=900) λh7=>?_;show SetP.at h7 3 4 rfl rfl S (A8 19) (nle tt:7<=900) λh8=>?_;show SetP.at h8 3 4 rfl rfl S (A8 20) (nle tt:8<=900) λh9=>?_;show SetP.at h9 3 4 rfl rfl S (A8 21) (nle tt:9<=900) λh10=>{rfl,hk ⟨a,d,k,l,u⟩ _ (h10.perm ?_)};show((fG (l₁:=[_,_,_]) (l₂:=[_,_])).trans (.append_left _ (nR [_,_,_]).symm)).append_right rest
theorem at_eq:((lget s.ah n).map V.bytes).getD (.bytes Bo)=.bytes (s.at_ n):=by
 unfold DS.at_
 cases lget s.ah n<;>rfl
def DS.view(s:DS):List Oct:=(cG s.blocks.toNat).map λ(n:Nat)=>s.at_ n
inductive ImJ(H:AH)(s:DS)(sq:Sq)(i:Nat)(xs:List V)(H':AH):Prop
 |mk (e:sq=.rng 0 1 s.blocks.toNat) (hx:xs=((cG i).map λ(n:Nat)=>s.at_ n).map .bytes) (hi:i<=s.blocks.toNat) (p:H'=H)
theorem Kh(h:HL H (s.objs x++rest))(so:s.Ok)(hb:2<=s.blocks)(hz:s.view.flatten.length<=2^20)(hk:K (.bytes s.view.flatten) H):WC F.u ↑526 [↑x.a] H K:=by
 have hz':s.blocks.toNat<=100:=by have:=so.blocks;show qn.mpr (by first|assumption|show cF (by assumption)|show cL (by assumption)|decide|show cr _|show aC (by assumption) (nle rfl))
 have h2:2<=s.blocks.toNat:=lin 0x18516d940952116c9 9479 tt hb (fR _);show Aw 45 rfl rfl ?_;show .blt "bytes.join" (Gm.bytes Cf Eh) ?_;apply @evL Y _ _ _;show WE.co (WCo.nm (j:=1) (ImJ H s) tt rfl rfl (λb b=>rfl) ?_ (λsq i xs H' j=>?_) (λsq i xs H' v j e=>?_) λsq i xs H' j e=>?_)
 .apply @WI _ _ _ _ Y;show WI.be Ia (.cons (λb b=>rfl) .nil) (Ah (i:=1) rfl) (.cons (λb b=>rfl) (exE (ex:=.attr 'A' "blocks") Al rfl (Aa.at h 0 1 rfl rfl Aj (A8 12) rfl (.nil (WIc.d9 ?_ {.rng,congrArg _ (Nm (bH '#' hb)),rfl,bV _,rfl})))));have:=so.blocks;show{by show lin 0x30a2db0a5e85023f48 263 tt hb,by show lin 0x7b305616ec0a047e948 296 tt this}
 .apply Y;obtain⟨rfl,rfl,hi,rfl⟩:=j;show{trivial,by simp only[aA,aA,dR];show aC (by assumption) (by first|assumption|show cF (by assumption)|show cL (by assumption)|decide|show cr _|show aC (by assumption) (nle rfl))}
 .apply @WTs _ Y _ _ _;obtain⟨rfl,rfl,hi,rfl⟩:=j;obtain⟨hi',e9⟩:=Dd e;rw[e9];apply @WTs _ _ _ _ Y;show .nil (exE (ex:=.af (.attr 'D' "latest") "get" ['B',.call (.type "bytes") [.attr 'D' "size"]]) Al ⋯ ?_);show(let K4:=_;let K6:=_;(?_:@ev _ _ _ _ K4 _ K6));show Aa.at h 0 1 rfl rfl Aj (A8 15) rfl ?_;show .blt "dict.get" (Gm.ae cB rfl (.own (h.get 3 rfl))) ?_;apply @evL _ _ _ Y;show Aa.at h 0 1 rfl rfl Aj (A8 13) rfl ?_;rw[so.size];show WC.b9 (dte tt) (dte tt) (WC.dh (.own (h.get 3 rfl)) ?_);show{rfl,?_,hi',rfl};simp only[dF,aJ,aJ,Dq,fF,dH];show congrArg (λv=>_++[v]) at_eq
 .obtain⟨rfl,rfl,hi,rfl⟩:=j;have this:=cA hi (Ct e);subst this;show WC.join (bs:=s.view) ⟨rfl,rfl⟩ (by unfold DS.view;simp only[aA,dR];show h2) hz hk
end
section
structure BS where
 number:Int
 data:Oct
 holders:Int
 pins:Int
structure BA where
 a:aK
 d:aK
 y:aK
def BS.names(b:BS)(x:BA):List (bY×V):=[("number",.int b.number),("data",.ref x.y),("holders",.int b.holders),("pins",.int b.pins)]
def BS.objs(b:BS)(x:BA):List (aK×AObj):=[(x.a,.inst 316 (some x.d)),(x.d,.aa (b.names x)),(x.y,.c6 b.data)]
def BS.free(b:BS):Bool:=b.holders==0&&b.pins==0
variable{F:Fx}{H:AH}{K:V->AH->Prop}{rest:List (aK×AObj)}{b:BS}{x:BA}
theorem Jd(h:HL H (b.objs x++rest))(hk:K (.bool b.free) H):WC F.u ↑243 [↑x.a] H K:=by
 show Aw 19 rfl rfl ?_;unfold BS.free at hk;show Aa.at h 0 1 rfl rfl Bb (A8 2) rfl (bifB (λe=>Aa.at h 0 1 rfl rfl Bb (A8 3) rfl ?_) λe=>?_)
 .rw[e]at hk;show hk
 .rw[e]at hk;show hk
theorem Id(h:HL H (b.objs x++rest))(hz:b.data.length=16)(hk:K (.bytes b.data) H):WC F.u ↑250 [↑x.a] H K:=by
 show Aw 20 rfl rfl ?_;show Aa.at h 0 1 rfl rfl Bb (A8 1) rfl (WC.fj (h.get 2 rfl) (lin 25302782017 295 tt hz) hk)
theorem Wz(h:HL H (b.objs x++rest))(hz:b.data.length=16)(hc:c.length=16)(hk:∀H',HL H' (({b with data:=c}:BS).objs x++rest)->K .none H'):WC F.u ↑278 [↑x.a,.bytes c] H K:=by
 apply @WC _ _ Y _ _;show Aw 21 rfl rfl ?_;show WC.lenY (lin 0x5e42907847e841 295 ⋯ hc) (Aa.at h 0 1 rfl rfl Bb (A8 1) rfl (WC.lenA (h.get 2 rfl) (lin 0x5e42907847e841 295 ⋯ hz) ?_));apply @dk _ _ _ _ _ Y;rw[hz,hc];show WS1.assign (λd d=>rfl) (λd=>rfl) (λd d=>rfl) (exE (ex:=.loc 1) Al rfl (WG.all (exE (ex:=.attr 'A' "data") Al rfl (Aa.at h 0 1 rfl rfl Bb (A8 1) rfl {_,_,rfl,h.get 2 rfl,hc.trans hz.symm,by show lin 25302782017 295 tt hc,_,rfl,?_}))));show hk _ (h.set 2 (.c6 c) rfl)
theorem Pv(h:HL H rest)(hc:c.length=16)(hk:∀x H',HL H' (BS.objs {number:=n,data:=c,holders:=0,pins:=0} x++rest)->K ↑x.a H'):WC F.u.u ↑316 [.int n,.bytes c] H K:=by
 show WC.new Rr (dte tt) λa d ha hd ne=>Nk 18 rfl rfl ?_;apply @evS _ _ _ _ _ Y _;have h0:=(h.new hd (.aa [])).new (a:=a) ((if_neg ne).trans ha) (.inst 316 (some d));have S:=Bb.toStF;show SetP.at h0 0 1 rfl rfl S (A8 0) (nle tt:0<=900) λh1=>?_;apply @evS _ _ _ _ _ _ Y;show WC.baY (lin 25302782017 295 tt hc) λy hy=>?_;show SetP.at (h1.new hy _) 1 2 rfl rfl S (A8 1) (nle tt:1<=900) λh2=>?_;show SetP.at h2 1 2 rfl rfl S (A8 2) (nle tt:2<=900) λh3=>?_;show SetP.at h3 1 2 rfl rfl S (A8 3) (nle tt:3<=900) λh4=>{rfl,hk ⟨a,d,y⟩ _ (h4.perm ?_)};show(perm_middle (l₁:=[_,_])).symm
end
section
structure CS where
 most:Int
 hits:Int
 reads:Int
 writes:Int
 au:List (BS×BA)
 row:List aK
 by_:List (Int×aK)
structure CA where
 a:aK
 d:aK
 r:aK
 m:aK
def refs(l:List aK):List V:=l.map .ref
def G4(l:List (Int×aK)):List (Int×V):=l.map λp=>(p.1,.ref p.2)
def CS.names(c:CS)(x:CA)(bu:aK):List (bY×V):=[("disk",.ref bu),("most",.int c.most),("size",.int 16),("row",.ref x.r),("by_number",.ref x.m),("hits",.int c.hits),("reads",.int c.reads),("writes",.int c.writes)]
def Ey(l:List (BS×BA)):List (aK×AObj):=l.flatMap λp=>p.1.objs p.2
def CS.objs(c:CS)(x:CA)(bu:aK):List (aK×AObj):=[(x.a,.inst 433 (some x.d)),(x.d,.aa (c.names x bu)),(x.r,.list (refs c.row)),(x.m,.ae (G4 c.by_))]
def all(c:CS)(x:CA)(s:DS)(y:DA)(rest:List (aK×AObj)):List (aK×AObj):=c.objs x y.a++(Ey c.au++(s.objs y++rest))
def CS.find(c:CS)(n:Int):Option (BS×BA):=c.au.find? λp=>p.1.number==n
structure CS.Ok(c:CS):Prop where
 row:c.row.Perm (c.au.map λp=>p.2.a)
 nums:(c.au.map λp=>p.1.number).Nodup
 byp:c.by_.Perm (c.au.map λp=>(p.1.number,p.2.a))
 most:c.au.length<=c.most/\c.most<=20
 len:∀p∈c.au,p.1.data.length=16
theorem X1{κ α:Type}[DecidableEq κ]{k:κ}:∀{m:List (κ×α)},k∉m.map (·.1)->lget m k=none:=by
 intro l9
 induction l9 with
 |nil=>intro z1;show rfl
 |cons x9 r ih=>intro h;obtain⟨j,v⟩:=x9;show(if_neg λe=>h (aS.mpr (.inl (eG e)))).trans (ih λm=>h (ja _ m))
theorem G5{κ α:Type}[DecidableEq κ]{k:κ}{v:α}{m:List (κ×α)}(nd:(m.map (·.1)).Nodup)(h:(k,v)∈m):lget m k=some v:=by
 induction m with
 |nil=>show absurd h aD
 |cons p r ih=>
  rcases aS.mp h with e8|h
  .rw[<- e8];show if_pos rfl
  .show(if_neg λ(e:p.1=k)=>(bX.mp nd).1 (aE.mpr {_,h,e.symm})).trans (ih (bX.mp nd).2 h)
theorem Ds(c:CS)(n:Int):(c.find n=none/\∀p∈c.au,p.1.number≠n)\/∃p,c.find n=some p/\p∈c.au/\p.1.number=n:=by
 unfold CS.find
 induction e:c.au.find? λp=>p.1.number==n using Option.casesOn with
 |none=>show .inl {rfl,λp hp y=>List.find?_eq_none.mp e p hp (beq_iff_eq.mpr y)}
 |some p=>show .inr {p,rfl,List.mem_of_find?_eq_some e,beq_iff_eq.mp (List.find?_some (p:=λ(p:BS×BA)=>p.1.number==n) e)}
theorem CS.Ok.bynd{c:CS}(co:c.Ok):(c.by_.map (·.1)).Nodup:=((co.byp.map _).nodup_iff).mpr (by simp only[dB];show co.nums)
theorem CS.Ok.by_{c:CS}(co:c.Ok)(n:Int):lget c.by_ n=(c.find n).map λp=>p.2.a:=by
 rcases Ds c n with⟨e,h⟩|⟨p,e,hp,rfl⟩
 .rw[e];show X1 λhm=>?_;obtain⟨q,hq,e2⟩:=aE.mp ((co.byp.map (·.1)).mem_iff.mp hm);obtain⟨p,hp,rfl⟩:=aE.mp hq;show h p hp e2
 .rw[e];show G5 co.bynd (co.byp.mem_iff.mpr (bZ hp))
theorem G6:lget (G4 m) k=(lget m k).map .ref:=Of
theorem Rz:lput (G4 m) k ↑b=G4 (lput m k b):=Og
variable{F:Fx}{H:AH}{K:V->AH->Prop}{rest:List (aK×AObj)}{c:CS}{x:CA}{s:DS}{y:DA}
theorem Uj{α:Type}{A B C R:List α}:(A++(B++(C++R))).Perm (C++(A++(B++R))):=by
 have:=(fG (l₁:=A++B) (l₂:=C)).append_right R;rwa [aH,aH,aH,aH]at this
theorem HL.bu(h:HL H (all c x s y rest)):HL H (s.objs y++(c.objs x y.a++(Ey c.au++rest))):=h.perm Uj
theorem HL.cy(h:HL H (s.objs y++(c.objs x y.a++(Ey c.au++rest)))):HL H (all c x s y rest):=h.perm Uj.symm
theorem El(h:HL H (all c x s y rest))(hn:0<=n/\n<s.blocks)(hk:K .none H):WC F.u ↑341 [↑x.a,.int n] H K:=by
 apply @WC _ _ Y _ _;show Aw 23 rfl rfl ?_;show WE.isint Ej Wr (λb b=>rfl) (Ah (i:=2) rfl) (Ah (i:=3) rfl) (exE (ex:=.loc 1) Al rfl {?_,n,rfl});apply @evB Y _ _;show bifD (λb=>Aa.at h 0 1 rfl rfl Ay (A8 4) rfl (Aa.at h.bu 0 1 rfl rfl Aj (A8 12) rfl ?_)) λe=>absurd hn.1 e;change bif !decide (n<s.blocks) then _ else _;simp only[decide_eq_true hn.2];show hk
theorem Pw(h:HL H (all c x s y rest))(so:s.Ok)(hd:s.dead=true->∀H',Ext H H'->F.KX 95 H')
  (hc:s.dead=false->gone s.ax s.ag=true->∀H',HL H' (({s with dead:=true}:DS).objs y++(c.objs x y.a++(Ey c.au++rest)))->F.KX 95 H')
  (hk:s.dead=false->gone s.ax s.ag=false->∀H' u,HL H' (s.fl.objs {y with u:=u}++(c.objs x y.a++(Ey c.au++rest)))->K .none H'):WC F.u.u.u.u.u.u ↑397 [↑x.a] H K:=by
 show Aw 31 rfl rfl ?_;show Aa.at h 0 1 rfl rfl Ay (A8 4) rfl ?_;show Av.at h.bu 0 1 rfl rfl Aj (Ao 20 rfl) rfl (Ui (F:=F.bd) h.bu so hd hc hk)
theorem Ie{p:BS×BA}:Ey (b1++p::b2)=Ey b1++(p.1.objs p.2++Ey b2):=by
 unfold Ey;simp only[fB,gv]
noncomputable abbrev Vu (c:CS) (x:CA) (b1 b2:List (BS×BA)) (s:DS) (y:DA) (rest:List (aK×AObj)):List (aK×AObj):=c.objs x y.a++(Ey b1++(Ey b2++(s.objs y++rest)))
theorem HL.buf{p:BS×BA}(h:HL H (all c x s y rest))(e:c.au=b1++p::b2):HL H (p.1.objs p.2++Vu c x b1 b2 s y rest):=by
 unfold all at h;simp only[e,Ie,aH,aH]at h;show h.perm Uj
theorem HL.dn{p:BS×BA}(h:HL H (p.1.objs p.2++Vu c x b1 b2 s y rest)):HL H (all {c with au:=b1++p::b2} x s y rest):=by
 unfold all;simp only[Ie,aH];show h.perm Uj.symm
structure Held(c:CS)(p:BS×BA):Prop where
 mem:c.find p.1.number=some p
 held:p.1.holders≠0
theorem Dk(h:HL H (all c x s y rest))(co:c.Ok)(e:c.au=b1++p::b2)(hp:Held c p)(hk:K .none H):WC F.u ↑348 [↑x.a,↑p.2.a] H K:=by
 show Aw 24 rfl rfl ?_;apply @evS _ _ _ _ _ Y _;show Aa.at h 0 1 rfl rfl Ay (A8 8) rfl ?_;apply @Av _ _ _ _ Y;show .blt "dict.get" (Gm.ae cB rfl (.own (h.get 3 rfl))) ?_;show Aa.at (h.buf e) 0 1 rfl rfl Bb (A8 0) rfl ?_;show WC.fy (.own (h.get 3 rfl)) ?_;simp only[G6,co.by_,hp.mem];show W2.dz ?_;show Aa.at (h.buf e) 0 1 rfl rfl Bb (A8 2) rfl (bifB (λe=>absurd (beq_iff_eq.mp e) hp.held) λb=>hk)
theorem pin_ok(h:HL H (all c x s y rest))(co:c.Ok)(e:c.au=b1++p::b2)(hp:Held c p)(hk:∀H',HL H' (all {c with au:=b1++({p.1 with pins:=p.1.pins+1},p.2)::b2} x s y rest)->K .none H'):WC F.u.u ↑376 [↑x.a,↑p.2.a] H K:=by
 show Aw 28 rfl rfl ?_;apply @evS _ _ _ _ _ Y _;show Av.at h 0 1 rfl rfl Ay (Ao 4 rfl) rfl (Dk (F:=F.bd) h co e hp ?_);show AugP.add (h.buf e) 0 1 rfl rfl Bb (A8 3) rfl (nle tt:4<=900) (λb k=>k) λh1=>?_;show hk _ (HL.dn (p:=({p.1 with pins:=p.1.pins+1},p.2)) h1)
theorem W2.isub(h:K (.int (i-j)) H):W2 F (fS .Sub) (.int i) (.int j) H K:=E8 λa a a a a a a ok=>lf <| isub_int (ok.int h)
theorem AugP.sub{a c d:aK}{n:bY}{w:(V->AH->Prop)->Prop}(h:HL H l)(p q:Nat)(e1:l[p]?=some (a,.inst c (some d)))(e2:l[q]?=some (d,.aa mm))(C:ClsF c)(T:AtF c n)(g:lget mm n=some (.int i))(hz:mm.length<=900)
  (hw:∀K:V->AH->Prop,K (.int j) H->w K) (hk:HL (H.set d (.aa (lput mm n (.int (i-j))))) (l.set q (d,.aa (lput mm n (.int (i-j)))))->k (H.set d (.aa (lput mm n (.int (i-j)))))):AugP F H ↑a n .Sub w k:=
 {a,c,d,mm,.int i,rfl,h.get p e1,h.get q e2,C,T,g,hw _ (.isub {mm,h.get p e1,h.get q e2,hz,hk (h.set q _ e2)})}
theorem Uk(h:HL H (all c x s y rest))(co:c.Ok)(e:c.au=b1++p::b2)(hp:c.find p.1.number=some p)(hn:p.1.pins≠0)(hk:∀H',HL H' (all {c with au:=b1++({p.1 with pins:=p.1.pins-1},p.2)::b2} x s y rest)->K .none H'):WC F.u ↑383 [↑x.a,.int p.1.number] H K:=by
 show Aw 29 rfl rfl ?_;apply @evS _ _ _ _ _ Y _;show Aa.at h 0 1 rfl rfl Ay (A8 8) rfl ?_;apply @Av _ _ _ _ Y;show .blt "dict.get" (Gm.ae cB rfl (.own (h.get 3 rfl))) (WC.fy (.own (h.get 3 rfl)) ?_);simp only[G6,co.by_,hp];show W2.isNone ?_;show Aa.at (h.buf e) 0 1 rfl rfl Bb (A8 3) rfl (bifB (λe=>absurd (beq_iff_eq.mp e) hn) λb=>?_);show AugP.sub (h.buf e) 0 1 rfl rfl Bb (A8 3) rfl (nle tt:4<=900) (λb k=>k) λh1=>?_;show hk _ (HL.dn (p:=({p.1 with pins:=p.1.pins-1},p.2)) h1)
theorem Px(h:HL H (all c x s y rest))(co:c.Ok)(so:s.Ok)(e:c.au=b1++p::b2)(hp:Held c p)(hn:0<=p.1.number/\p.1.number<s.blocks)
  (hd:s.dead=true->∀H',Ext H H'->F.KX 95 H') (hc:s.dead=false->gone s.last s.writes=true->∀H',HL H' (all c x {s with dead:=true} y rest)->F.KX 95 H')
  (hk:s.dead=false->gone s.last s.writes=false->∀H',HL H' (all {c with writes:=c.writes+1} x (s.wr p.1.number p.1.data) y rest)->K .none H'):WC F.u.u.u.u.u.u ↑390 [↑x.a,↑p.2.a] H K:=by
 have hb:=h.buf e;have lp:=co.len p (by rw[e];show aG _ (.head _));show Aw 30 rfl rfl ?_;apply @evS _ _ _ _ _ Y _;show Av.at h 0 1 rfl rfl Ay (Ao 4 rfl) rfl (Dk (F:=F.bd.u.u.u.u) h co e hp ?_);show Aa.at h 0 1 rfl rfl Ay (A8 4) rfl ?_;show Av.at h.bu 0 1 rfl rfl Aj (Ao 18 rfl) rfl ?_;show(let K0:=_;let K3:=_;(?_:@evL K0 _ _ K3));show Aa.at hb 0 1 rfl rfl Bb (A8 0) rfl ?_;apply @evL _ _ _ Y;show Av.at hb 0 1 rfl rfl Bb (Ao 1 rfl) rfl (Id (F:=F.bd.u.u.u.u) hb lp ?_);show Uf (F:=F.bd) h.bu so hn lp hd (λe1 e2 H' h'=>hc e1 e2 H' h'.cy) λe1 e2 H' h'=>?_;show AugP.add (h'.cy) 0 1 rfl rfl Ay (A8 11) rfl (nle tt:8<=900) (λb k=>k) (hk e1 e2 _)
theorem Py:EqF 316:=λP=>.mk rfl rfl ⋯ rfl rfl
theorem Ul(h:p∈l):(p.2.a,AObj.inst 316 (some p.2.d))∈Ey l:=oj.mpr {p,h,.head _}
theorem row_at{l:List aK}(h:a∈l):∃i,l[i]?=some a/\(∀j,j<i->l[j]? ≠ some a)/\l.erase a=l.eraseIdx i:=by
 induction l with
 |nil=>show absurd h aD
 |cons b r ih=>
  rcases bB (b=a) with e|e
  .rw[e];show{0,rfl,λj hj=>absurd hj (p5 j),by rw[List.erase_cons_head];rfl}
  .apply Y;obtain⟨i,h1,h2,h3⟩:=ih ((aS.mp h).resolve_left (fQ e));show{i+1,h1,λj hj=>?_,?_}
   .induction j using Nat.casesOn with
    |zero=>show λq=>e (bL q)
    |succ j=>show h2 j (Nat.lt_of_succ_lt_succ hj)
   .rw[List.erase_cons_tail (by simpa using e),h3];rfl
def CS.rel(c:CS)(b1 b2:List (BS×BA))(p:BS×BA):CS:={c with au:=b1++({p.1 with holders:=p.1.holders-1},p.2)::b2,row:=bif p.1.holders-1==0 then c.row.erase p.2.a++[p.2.a] else c.row}
theorem Je:(refs l).eraseIdx i=refs (l.eraseIdx i):=by
 induction l generalizing i with
 |nil=>rfl
 |cons a r ih=>induction i using Nat.casesOn with
  |zero=>rfl
  |succ i=>show congrArg (cW _) ih
theorem Pz(h:HL H (all c x s y rest))(co:c.Ok)(e:c.au=b1++p::b2)(hp:Held c p)(hk:∀H',HL H' (all (c.rel b1 b2 p) x s y rest)->K .none H'):WC F.u.u ↑369 [↑x.a,↑p.2.a] H K:=by
 have hm:p∈c.au:=by rw[e];show aG _ (.head _)
 show Aw 27 rfl rfl ?_;apply @evS _ _ _ _ _ Y _;show Av.at h 0 1 rfl rfl Ay (Ao 4 rfl) rfl (Dk (F:=F.bd) h co e hp ?_);show AugP.sub (h.buf e) 0 1 rfl rfl Bb (A8 2) rfl (nle tt:4<=900) (λb k=>k) λh1=>?_;have h2:=HL.dn (p:=({p.1 with holders:=p.1.holders-1},p.2)) h1;unfold CS.rel at hk;show Aa.at h1 0 1 rfl rfl Bb (A8 2) rfl (bifB (λe0=>?_) λe0=>?_)
 .show(let K4:=_;let K6:=_;(?_:@evS _ _ _ _ K4 _ K6));rw[e0]at hk;apply Y;have ha:p.2.a∈c.row:=co.row.mem_iff.mpr (bZ hm);obtain⟨i,i1,i2,i3⟩:=row_at ha;have rl:c.row.length<=20:=by have:=co.row.length_eq;rw[aA]at this;have:=co.most;show lin 0x5882f67cac2d049f84a 370983 tt ‹_› this
  have co2:Insts _ 316 (refs c.row):=λv hv=>by
   obtain⟨a,ha,rfl⟩:=aE.mp hv;obtain⟨q,hq,e9⟩:=aE.mp (co.row.mem_iff.mp ha);rw[<- e9];have:∃q',q'∈b1++({p.1 with holders:=p.1.holders-1},p.2)::b2/\q'.2=q.2:=by
    rw[e]at hq;rcases aZ.mp hq with hq|hq
    .show{q,aU _ hq,rfl}
    .apply Y;rcases aS.mp hq with e8|hq
     .cases e8;show{_,aG _ (.head _),rfl}
     .show{q,aG _ (.tail _ hq),rfl}
   obtain⟨q',hq',e'⟩:=this;show{q.2.a,some q.2.d,rfl,h2.at_ _ (aG _ (aU _ (e'▸Ul hq')))}
  show Aa.at h2 0 1 rfl rfl Ay (A8 7) rfl ?_;show .blt "list.remove" (Gm.list l6 ⋯ {rfl,h2.get 2 rfl}) ?_;show WC.remove (i:=i) Py (h2.get 2 rfl) co2 (by unfold refs;rw[bK,i1];rfl) (λj hj q=>?_) (by unfold refs;rw[aA];show aC (by assumption) (nle rfl)) ?_
  .unfold refs at q;rw[bK,bF]at q;obtain⟨a,q1,q2⟩:=q;injection q2 with q2;subst q2;show i2 j hj q1
  rw[Je,<- i3];have h3:=h2.set 2 (.list (refs (c.row.erase p.2.a))) rfl;show Aa.at h3 0 1 rfl rfl Ay (A8 7) rfl ?_;show .blt "list.append" (Gm.list cI ⋯ {rfl,h3.get 2 rfl}) ?_;show WC.append (h3.get 2 rfl) (by unfold refs;rw[aA];have:=List.length_erase_le (a:=p.2.a) (l:=c.row);show aC (by assumption) (by first|assumption|show cF (by assumption)|show cL (by assumption)|decide|show cr _|show aC (by assumption) (nle rfl))) ?_
  have:=h3.set 2 (.list (refs (c.row.erase p.2.a)++[↑p.2.a])) rfl;show hk _ ?_;have e5:refs (c.row.erase p.2.a)++[↑p.2.a]=refs (c.row.erase p.2.a++[p.2.a]):=by unfold refs;rw[aJ];rfl
  rw[e5]at this ⊢;show this
 .rw[e0]at hk;show hk _ h2
theorem CS.Ok.swap{p p':BS×BA}(co:c.Ok)(e:c.au=b1++p::b2)(hn:p'.1.number=p.1.number)(ha:p'.2=p.2)(hl:p'.1.data.length=16):CS.Ok {c with au:=b1++p'::b2}:=by
 apply Y;obtain⟨c1,c2,c3,c4,c5⟩:=co;rw[e]at c1 c2 c3 c4 c5;show{?_,?_,?_,?_,λq hq=>?_}
 .change c.row.Perm ((b1++p'::b2).map λp=>p.2.a);simp only[aJ,fA]at c1 ⊢;rw[ha];show c1
 .change((b1++p'::b2).map λp=>p.1.number).Nodup;simp only[aJ,fA]at c2 ⊢;rw[hn];show c2
 .change c.by_.Perm ((b1++p'::b2).map λp=>(p.1.number,p.2.a));simp only[aJ,fA]at c3 ⊢;rw[ha,hn];show c3
 .change((b1++p'::b2).length:Int)<=_/\_;rw[aV]at c4 ⊢;show c4
 .rcases aZ.mp hq with hq|hq
  .show c5 q (aU _ hq)
  .rcases aS.mp hq with e8|hq
   .subst e8;show hl
   .show c5 q (aG _ (.tail _ hq))
theorem CS.Ok.rel(co:c.Ok)(e:c.au=b1++p::b2):(c.rel b1 b2 p).Ok:=by
 have hm:=(e▸aG _ (.head _));obtain⟨c1,c2,c3,c4,c5⟩:=co.swap e (p':=({p.1 with holders:=p.1.holders-1},p.2)) rfl rfl (co.len p hm);show{?_,c2,c3,c4,c5};change(bif p.1.holders-1==0 then c.row.erase p.2.a++[p.2.a] else c.row).Perm _
 cases p.1.holders-1==0 with
 |false=>show c1
 |true=>
  have ha:=co.row.mem_iff.mpr (bZ hm);show((fV ..).trans (List.perm_cons_erase ha).symm).trans c1
end
section
theorem Ki{α β:Type}{f:α->β}{l:List α}{p q:α}(nd:(l.map f).Nodup)(hp:p∈l)(hq:q∈l)(e:f p=f q):p=q:=by
 induction l with
 |nil=>show absurd hp aD
 |cons x r ih=>
  obtain⟨n1,n2⟩:=bX.mp nd;rcases aS.mp hp with h|h
  .rcases aS.mp hq with h2|h2
   .rw[h,h2]
   .show absurd (h▸e▸bZ h2) n1
  .rcases aS.mp hq with h2|h2
   .show absurd (h2▸e▸bZ h) n1
   .show ih n2 h h2
variable{F:Fx}{H:AH}{K:V->AH->Prop}{rest:List (aK×AObj)}{c:CS}{x:CA}{s:DS}{y:DA}
def CS.cut(c:CS)(i:Nat)(b1 b2:List (BS×BA))(p:BS×BA):CS:={c with au:=b1++b2,row:=c.row.eraseIdx i,by_:=ldel c.by_ p.1.number}
theorem CS.Ok.fm(co:c.Ok){i:Nat}(e:c.row[i]?=some a):∃b1 p b2,c.au=b1++p::b2/\p.2.a=a:=by
 apply Y;obtain⟨p,hp,rfl⟩:=aE.mp (co.row.mem_iff.mp (aX e));obtain⟨b1,b2,e⟩:=ic hp;show⟨b1,p,b2,e,rfl⟩
theorem CS.Ok.dq(co:c.Ok):c.row.length=c.au.length:=by have:=co.row.length_eq;rwa [aA]at this
theorem Um:∀{l:List (BS×BA)},(l.map λp=>p.2.a).Sublist ((Ey l).map (·.1)):=by
 intro l9
 induction l9 with
 |nil=>show .slnil
 |cons p r ih=>show .cons_cons _ (.cons _ (.cons _ (ih)))
theorem S3(h:HL H (all c x s y rest)):(c.au.map λp=>p.2.a).Nodup:=h.drop.fst.nd.sublist Um
theorem S4:ldel (G4 m) k=G4 (ldel m k):=by
 unfold ldel G4;simp only[oQ];rfl
inductive MrJ(H:AH)(c:CS)(x:CA)(ns:List (bY×aY))(sq:Sq)(i:Nat)(m:Loc)(H':AH):Prop
 |mk(u w:Option V)(hm:m=lc ns [some ↑x.a,u,w])(e:sq=.enum (some x.r) (refs c.row))(hi:∀j<i,∀p∈c.au,c.row[j]?=some p.2.a->p.1.free=false)(p:H'=H)
theorem Oi{i:Nat}(e:(refs l)[i]?=some v):∃a,l[i]?=some a/\v=.ref a:=by
 unfold refs at e;rw[bK,bF]at e;apply Y;obtain⟨p,e1,e2⟩:=e;show{p,e1,e2.symm}
theorem CS.Ok.dt(co:c.Ok){p:BS×BA}(hp:p∈c.au):c.find p.1.number=some p:=by
 rcases Ds c p.1.number with⟨a,h⟩|⟨q,e,hq,en⟩
 .show absurd rfl (h p hp)
 .simp only[e,Ki co.nums hq hp en]
theorem Mg(h:HL H (all c x s y rest))(co:c.Ok)(hf:(c.au.length:Int)<c.most\/∃q∈c.au,q.1.free=true)(h1:(c.au.length:Int)<c.most->K .none H)
  (h2:∀i b1 p b2 H',c.au=b1++p::b2->c.row[i]?=some p.2.a->p.1.free=true->HL H' (all (c.cut i b1 b2 p) x s y rest)->K .none H'):WC F.u.u ↑362 [↑x.a] H K:=by
 have rl:=co.dq;have ml:=co.most;show Aw 26 rfl rfl ?_;show Aa.at h 0 1 rfl rfl Ay (A8 7) rfl ?_;have zl:(refs c.row).length=c.au.length:=by unfold refs;rw[aA,rl]
 show WC.bg {rfl,h.get 2 rfl} (lin 0x7b3e561682588290a047e84a 369927 tt ml zl) ?_;show Aa.at h 0 1 rfl rfl Ay (A8 5) rfl ?_;show bifD (λe=>h1 (by rw[zl]at e;show e)) λe=>?_;have hf:=hf.resolve_left λe'=>e ((zl▸e'));show WS1.for rfl (MrJ H c x (A9 (cst 17 4)).names) (λb b=>rfl) ?_ ?_ ?_ ?_
 .show WI.be Cs (.cons (λb b=>rfl) .nil) (Ah (i:=4) rfl) (.cons (λb b=>rfl) (exE (ex:=.attr 'A' "row") Al rfl (Aa.at h 0 1 rfl rfl Ay (A8 7) rfl (.nil (WIc.enum {rfl,h.get 2 rfl} {.enum,{.none,.none,rfl,rfl,λj hj=>absurd hj (p5 j),rfl}})))))
 .rintro sq i m' H' ⟨u,w,rfl,rfl,hi,rfl⟩;show h.get 2 rfl
 .rintro sq i m' H' v ⟨u,w,rfl,rfl,hi,rfl⟩ e;show(let K1:=_;let K5:=_;(?_:@WG _ K1 _ _ _ K5));obtain⟨w',e1,rfl⟩:=bF.mp e;obtain⟨a,e2,e9⟩:=Oi e1;rw[e9];obtain⟨b1,p,b2,eb,rfl⟩:=co.fm e2;have hb:=h.buf eb;show WG.tup (.cons (λb b=>rfl) (.cons (λb b=>rfl) .nil)) rfl (.cons (λb b=>rfl) (.name (k:=.local) (Bc (i:=1) rfl) (.inl rfl) (λb b h=>absurd h aD) (.cons (λb b=>rfl) (.name (k:=.local) (Bc (i:=2) rfl) (.inl rfl) (λb b h=>absurd h aD) (.nil ?_)))));show(exS (st:=.ite (.af 'C' "is_free" []) (.raw (Ad [1,0,0,0,0] (A7 (cst 17 4))) (.raw (Ad [1,0,0,0,1] (A7 (cst 17 4))) .fq)) .done .done) (sl:=[some ↑x.a,some (.int i),some ↑p.2.a]) (KN:=λsl' H2=>MrJ H' c x (A9 (cst 17 4)).names (.enum (some x.r) (refs c.row)) (i+1) (lc (A9 (cst 17 4)).names sl') H2) rfl rfl rfl ?_).mono λm' H3⟨sl',e,k⟩=>e▸k;show(let K4:=_;let K5:=_;(?_:@evS _ _ _ _ K4 K5 _));show Av.at hb 0 1 rfl rfl Bb (Ao 0 rfl) rfl (Jd (F:=F.bd) hb ?_);show bifB (λef=>?_) λef=>{_,_,rfl,rfl,λj hj q hq eq=>?_,rfl}
  .have hm:p∈c.au:=by rw[eb];show aG _ (.head _)
   have hfind:=co.dt hm;show WS1.fh (exE (ex:=.attr 'A' "by_number") Al rfl (Aa.at h 0 1 rfl rfl Ay (A8 8) rfl (exE (ex:=.attr 'C' "number") Al rfl (Aa.at hb 0 1 rfl rfl Bb (A8 0) rfl (U2.delI (h.get 3 rfl) ?_ ?_ {_,rfl,?_})))))
   .rw[G6,co.by_,hfind];rfl
   .change(G4 c.by_).length<=_;unfold G4;rw[aA];have:=co.byp.length_eq;rw[aA]at this;show lin 0x7b3e56168258829d04a 369927 tt ml this
   rw[S4];have h1:=h.set 3 (.ae (G4 (ldel c.by_ p.1.number))) rfl;have il:=(aI.mp e2).1;show WS1.fh (exE (ex:=.attr 'A' "row") Al rfl (Aa.at h1 0 1 rfl rfl Ay (A8 7) rfl (exE (ex:=.loc 1) Al rfl (U2.delL (h1.get 2 rfl) (cr i) ?_ ?_ {_,rfl,?_}))))
   .change(i:Int)<(refs c.row).length;rw[zl,<- rl];show oE.mpr il
   .rw[zl];show lin 0xf67cac2d029d049 9479 tt ml
   rw[Je];have h2':=HL.buf (c:={c with row:=c.row.eraseIdx i,by_:=ldel c.by_ p.1.number}) (h1.set 2 (.list (refs (c.row.eraseIdx i))) rfl) eb;show h2 i b1 p b2 _ eb e2 ef ?_;unfold all CS.cut Ey;rw[fB,aH];show h2'.drop
  .rcases gw.mp hj with hj|rfl
   .show hi j hj q hq eq
   .have:q=p:=Ki (S3 h) hq (by rw[eb];show aG _ (.head _)) (bL (eq.symm.trans e2));show this▸ef
 .rintro sq i m' H' ⟨u,w,rfl,rfl,hi,rfl⟩ e;apply Y;obtain⟨q,hq,hqf⟩:=hf;obtain⟨j,hj⟩:=List.mem_iff_getElem?.mp (co.row.mem_iff.mpr (bZ hq));have e':=aO.mp (ik.mp e);have jl:=(aI.mp hj).1;rw[hi j (lin 0x2c1d1ac1d2244450c2a1045 14036295 tt rl zl e' jl) q hq hj]at hqf;show aR hqf
end
section
def upd{α:Type}(f:Int->α)(n:Int)(v:α):Int->α:=λm=>if m=n then v else f m
theorem Ag{α:Type}{f:Int->α}{n:Int}{v:α}:upd f n v n=v:=if_pos rfl
theorem Af{α:Type}{f:Int->α}{v:α}(h:m≠n):upd f n v m=f m:=if_neg h
structure CG where
 most:Int
 V:Int->Oct
 h:Int->Int
 p:Int->Int
 B:Int->aK
def CG.set(g:CG)(n:Int)(v:Oct)(k j:Int)(b:aK):CG:={g with V:=upd g.V n v,h:=upd g.h n k,p:=upd g.p n j,B:=upd g.B n b}
def CG.used(g:CG)(n:Int):Prop:=g.h n=0->g.p n≠0
structure Sh(c:CS)(s:DS)(g:CG):Prop where
 ok:c.Ok
 most:c.most=g.most
 eq:∀q∈c.au,q.1.data=g.V q.1.number/\q.1.holders=g.h q.1.number/\q.1.pins=g.p q.1.number
 no:∀n,(∀q∈c.au,q.1.number≠n)->g.h n=0/\g.p n=0
 cl:∀n,g.h n=0->g.p n=0->g.V n=s.at_ n
 ad:∀q∈c.au,g.used q.1.number->q.2.a=g.B q.1.number
 len:∀n,(g.V n).length=16
 pos:∀n,0<=g.h n/\0<=g.p n
def Room(g:CG):Prop:=∃U:List Int,(∀m,g.used m->m∈U)/\(U.length:Int)<g.most
variable{c:CS}{s s':DS}{g:CG}{p:BS×BA}{b1 b2:List (BS×BA)}
theorem Mh:∀{N U:List Int},N.Nodup->(∀n∈N,n∈U)->N.length<=U.length:=by
 intro l9
 induction l9 with
 |nil=>intro z1 z2 z3;show bV _
 |cons n r ih =>
  intro U nd h;obtain⟨h1,h2⟩:=bX.mp nd;have a:=ih (U:=U.erase n) h2 λm hm=>(List.mem_erase_of_ne λ(e:m=n)=>h1 (e▸hm)).mpr (h m (.tail _ hm));show dW a (by rw[List.length_erase_of_mem (h n (.head _))];show rr (List.length_pos_of_mem (h n (.head _))) qR)
theorem Hf{b:BS}:b.free=true↔b.holders=0/\b.pins=0:=by
 unfold BS.free;rw[kA,beq_iff_eq,beq_iff_eq]
theorem Sh.room(sh:Sh c s g)(r:Room g):(c.au.length:Int)<c.most\/∃q∈c.au,q.1.free=true:=by
 obtain⟨U,h1,h2⟩:=r;rcases bB (∃q∈c.au,q.1.free=true) with hf|hf
 .show .inr hf
 .have:=Mh (N:=c.au.map λq=>q.1.number) (U:=U) sh.ok.nums λn hn=>by
   obtain⟨q,hq,e9⟩:=aE.mp hn;simp only[<- e9];show h1 _ λe1 e2=>hf {q,hq,Hf.mpr ?_};have:=sh.eq q hq;show{this.2.1.trans e1,this.2.2.trans e2}
  rw[aA]at this;rw[sh.most];show .inl (lin 0xd2d049105a5a04a 9479 tt h2 this)
theorem G7(hq:q∈b1++p'::b2):q=p'\/q∈b1++b2:=by
 apply Y;rcases aZ.mp hq with hq|hq
 .show .inr (aU _ hq)
 .rcases aS.mp hq with e8|hq
  .subst e8;show .inl rfl
  .show .inr (aG _ hq)
theorem G8(hq:q∈b1++b2):q∈b1++p'::b2:=by
 rcases aZ.mp hq with hq|hq
 .show aU _ hq
 .show aG _ (.tail _ hq)
theorem CS.Ok.apart(co:c.Ok)(e:c.au=b1++p::b2)(hq:q∈b1++b2):q.1.number≠p.1.number:=by
 have nd:=co.nums;rw[e]at nd;have:=((perm_middle:(b1++p::b2).Perm (p::(b1++b2))).map λq=>q.1.number).nodup_iff.mp nd;show λy=>(bX.mp this).1 (aE.mpr ⟨q,hq,y⟩)
theorem Sh.turn(sh:Sh c s g)(e:c.au=b1++p::b2)(p':BS)(hn:p'.number=p.1.number)(hl:p'.data.length=16)(hz:0<=p'.holders/\0<=p'.pins)(hc:p'.holders=0->p'.pins=0->p'.data=s'.at_ p.1.number)(hs:∀m,m≠p.1.number->s'.at_ m=s.at_ m):
  Sh {c with au:=b1++(p',p.2)::b2} s' (g.set p.1.number p'.data p'.holders p'.pins p.2.a):=by
 show(let K0:=_;let K2:=_;(?_:@Sh K0 _ K2));show{sh.ok.swap e hn rfl hl,sh.most,λq hq=>?_,λn h=>?_,λn h1 h2=>?_,λq hq h=>?_,λn=>?_,λn=>?_}
 .rcases G7 hq with rfl|hq
  .show hn.symm▸{Ag.symm,Ag.symm,Ag.symm}
  .apply Y;have ne:=sh.ok.apart e hq;have:=sh.eq q (by rw[e];show G8 hq);show{this.1.trans (Af ne).symm,this.2.1.trans (Af ne).symm,this.2.2.trans (Af ne).symm}
 .have ne:n≠p.1.number:=λy=>h (p',p.2) (aG _ (.head _)) (hn.trans y.symm);have:=sh.no n λq hq=>by
   rw[e]at hq;clear e hn hc hs;rcases G7 hq with rfl|hq
   .show ne.symm
   .show h q (G8 hq)
  show{(Af ne).trans this.1,(Af ne).trans this.2}
 .by_cases ne:n=p.1.number
  .subst ne;show(Ag).trans (hc ((Ag).symm.trans h1) ((Ag).symm.trans h2))
  .show(Af ne).trans ((sh.cl n ((Af ne).symm.trans h1) ((Af ne).symm.trans h2)).trans (hs n ne).symm)
 .rcases G7 hq with rfl|hq
  .simp only[hn];show Ag.symm
  .have ne:=sh.ok.apart e hq;show(sh.ad q (by rw[e];show G8 hq) λh1 h2=>?_).trans (Af ne).symm;show h ((Af ne).trans h1) ((Af ne).trans h2)
 .by_cases ne:n=p.1.number
  .subst ne;rw[show(g.set p.1.number p'.data p'.holders p'.pins p.2.a).V p.1.number=p'.data from Ag];show hl
  .rw[show(g.set p.1.number p'.data p'.holders p'.pins p.2.a).V n=g.V n from Af ne];show sh.len n
 .by_cases ne:n=p.1.number
  .subst ne;show{bH hz.1 (dY Ag.symm),bH hz.2 (dY Ag.symm)}
  .show{bH (sh.pos n).1 (dY (Af ne).symm),bH (sh.pos n).2 (dY (Af ne).symm)}
theorem Sh.congr(sh:Sh c s g)(m:g'.most=g.most)(h:∀n,g'.V n=g.V n/\g'.h n=g.h n/\g'.p n=g.p n)(hB:∀n,g'.used n->g'.B n=g.B n):Sh c s g':=by
 have us:∀{n},g'.used n->g.used n:=λ{n}u e1 e2=>u ((h n).2.1.trans e1) ((h n).2.2.trans e2);show⟨sh.ok,sh.most.trans m.symm,λq hq=>let e:=sh.eq q hq;let k:=h q.1.number;{e.1.trans k.1.symm,e.2.1.trans k.2.1.symm,e.2.2.trans k.2.2.symm},
  λn hn=>let e:=sh.no n hn;let k:=h n;{k.2.1.trans e.1,k.2.2.trans e.2},λn h1 h2=>let k:=h n;k.1.trans (sh.cl n (k.2.1.symm.trans h1) (k.2.2.symm.trans h2)),λq hq u=>(sh.ad q hq (us u)).trans (hB _ u).symm,λn=>by rw[(h n).1];show sh.len n,λn=>by simp only[(h n).2.1,(h n).2.2];show sh.pos n⟩
theorem Sh.counts(sh:Sh c s g)(e1:c'.most=c.most)(e2:c'.au=c.au)(e3:c'.row=c.row)(e4:c'.by_=c.by_):Sh c' s g:=by
 obtain⟨a1,a2,a3,a4,a5,a6,a7⟩:=c;obtain⟨d1,d2,d3,d4,d5,d6,d7⟩:=c';apply Y;subst e1;subst e2;subst e3;subst e4;show{{sh.ok.row,sh.ok.nums,sh.ok.byp,sh.ok.most,sh.ok.len},sh.most,sh.eq,sh.no,sh.cl,sh.ad,sh.len,sh.pos}
theorem X2{α:Type}{a:α}{l:List α}:∀{i:Nat},l[i]?=some a->l.Perm (a::l.eraseIdx i):=by
 induction l with
 |nil=>show λ{i}e=>fn e
 |cons b r ih=>
  intro i e;rcases i with _|i
  .injection e with e;subst e;show .refl _
  .show((ih (i:=i) e).cons b).trans (.swap ..)
theorem Sh.cut(sh:Sh c s g)(e:c.au=b1++p::b2)(er:c.row[i]?=some p.2.a)(hf:p.1.free=true):Sh (c.cut i b1 b2 p) s g:=by
 have co:=sh.ok;have hp:p∈c.au:=by rw[e];show aG _ (.head _)
 have sub:∀q∈b1++b2,q∈c.au:=λq hq=>by rw[e];show G8 hq
 have pm:c.au.Perm (p::(b1++b2)):=by rw[e];show perm_middle
 have nd:=(pm.map λq=>q.1.number).nodup_iff.mp co.nums;show{{?_,(bX.mp nd).2,?_,?_,λq hq=>co.len q (sub q hq)},sh.most,λq hq=>sh.eq q (sub q hq),λn h=>?_,sh.cl,λq hq=>sh.ad q (sub q hq),sh.len,sh.pos}
 .change(c.row.eraseIdx i).Perm ((b1++b2).map λq=>q.2.a);show((X2 er).symm.trans (co.row.trans (pm.map λq=>q.2.a))).cons_inv
 .change(ldel c.by_ p.1.number).Perm ((b1++b2).map λq=>(q.1.number,q.2.a));have h1:(ldel c.by_ p.1.number).Perm (ldel ((p::(b1++b2)).map λq=>(q.1.number,q.2.a)) p.1.number):=(co.byp.trans (pm.map _)).filter _;show h1.trans ?_;unfold ldel;rw[fA,iR (by simp only[decide_eq_true_eq];show λh=>h rfl),List.filter_eq_self.mpr];intro q hq;apply Y;obtain⟨r,hr,rfl⟩:=aE.mp hq;show decide_eq_true (co.apart e hr)
 .have:=co.most;change((b1++b2).length:Int)<=c.most/\c.most<=20;rw[e,aV]at this;rw[aV];show{cO (cF ‹_›),cL ‹_›}
 .by_cases ne:n=p.1.number
  .clear h;subst ne;have:=sh.eq p hp;show{this.2.1.symm.trans (Hf.mp hf).1,this.2.2.symm.trans (Hf.mp hf).2}
  .show sh.no n λq hq=>?_;rw[e]at hq;clear sh e er hf co hp sub pm nd;rcases G7 hq with rfl|hq
   .show fQ ne
   .show h q hq
def CS.add(c:CS)(b:BS)(x:BA):CS:={c with reads:=c.reads+1,au:=(b,x)::c.au,row:=c.row++[x.a],by_:=lput c.by_ b.number x.a}
theorem Hg{κ α:Type}[DecidableEq κ]{k:κ}{v:α}:∀{m:List (κ×α)},k∉m.map (·.1)->lput m k v=m++[(k,v)]:=by
 intro l9
 induction l9 with
 |nil=>intro z1;show rfl
 |cons x9 r ih=>intro h;obtain⟨j,u⟩:=x9;show(if_neg λe=>h (aS.mpr (.inl (eG e)))).trans (congrArg _ (ih λm=>h (ja _ m)))
theorem Sh.add(sh:Sh c s g)(hn:∀q∈c.au,q.1.number≠n)(hl:(c.au.length:Int)<c.most):Sh (c.add {number:=n,data:=s.at_ n,holders:=0,pins:=0} xb) s g:=by
 apply @Sh Y _ _;have co:=sh.ok;obtain⟨h0,p0⟩:=sh.no n hn;have v0:=sh.cl n h0 p0;have nb:n∉c.by_.map (·.1):=λhm=>by
  obtain⟨q,hq,rfl⟩:=aE.mp ((co.byp.map (·.1)).mem_iff.mp hm);clear h0 p0 v0 hm;obtain⟨p,hp,rfl⟩:=aE.mp hq;show hn p hp rfl
 show{{?_,bX.mpr {λhm=>?_,co.nums},?_,?_,λq hq=>?_},sh.most,λq hq=>?_,λm h=>sh.no m λq hq=>h q (.tail _ hq),sh.cl,λq hq u=>?_,sh.len,sh.pos}
 .show(fV ..).trans (.cons _ co.row)
 .obtain⟨q,hq,e⟩:=aE.mp hm;show hn q hq e
 .change(lput c.by_ n xb.a).Perm _;rw[Hg nb];show(fV ..).trans (.cons _ co.byp)
 .have:=co.most;change((_::c.au).length:Int)<=c.most/\c.most<=20;simp only[cK];show{‹_›,cL ‹_›}
 .rcases aS.mp hq with e8|hq
  .subst e8;show v0▸sh.len n
  .show co.len q hq
 .apply Y;rcases aS.mp hq with e8|hq
  .subst e8;show{v0.symm,h0.symm,p0.symm}
  .show sh.eq q hq
 .rcases aS.mp hq with e8|hq
  .subst e8;show absurd p0 (u h0)
  .show sh.ad q hq u
end
section
variable{F:Fx}{H:AH}{K:V->AH->Prop}{rest:List (aK×AObj)}{x:CA}{s:DS}{y:DA}{g:CG}{n:Int}
inductive CH(H:AH)(x:CA)(s:DS)(y:DA)(rest:List (aK×AObj))(g:CG):Prop
 |mk(c:CS)(h:HL H (all c x s y rest))(sh:Sh c s g)
inductive Bf(H:AH)(x:CA)(s:DS)(y:DA)(rest:List (aK×AObj))(g:CG)(n:Int)(a:aK):Prop
 |mk(c:CS)(b1 b2:List (BS×BA))(b:BS)(xb:BA)(h:HL H (all c x s y rest))(sh:Sh c s g)(e:c.au=b1++(b,xb)::b2)(en:b.number=n)(ea:xb.a=a)(ed:b.data=g.V n)(eh:b.holders=g.h n)(ep:b.pins=g.p n)
theorem CH.buf(C:CH H x s y rest g)(u:g.used n):Bf H x s y rest g n (g.B n):=by
 apply Y;obtain⟨c,h,sh⟩:=C;rcases Ds c n with⟨a,hn⟩|⟨⟨b,xb⟩,a,hp,rfl⟩
 .have:=sh.no n hn;show absurd this.2 (u this.1)
 .obtain⟨b1,b2,e⟩:=ic hp;have q:=sh.eq _ hp;show{c,b1,b2,b,xb,h,sh,e,rfl,sh.ad _ hp u,q.1,q.2.1,q.2.2}
theorem CH.congr(C:CH H x s y rest g)(m:g'.most=g.most)(h:∀n,g'.V n=g.V n/\g'.h n=g.h n/\g'.p n=g.p n)(hB:∀n,g'.used n->g'.B n=g.B n):CH H x s y rest g':=let ⟨c,l,sh⟩:=C;{c,l,sh.congr m h hB}
structure Got(g:CG)(n:Int)(g1:CG):Prop where
 most:g1.most=g.most
 V:∀m,g1.V m=g.V m
 hn:g1.h n=g.h n+1
 h:∀m,m≠n->g1.h m=g.h m
 p:∀m,g1.p m=g.p m
 B:∀m,g.used m->g1.B m=g.B m
theorem Cb{α:Type}{f:Int->α}:upd f n (f n) m=f m:=by
 unfold upd;split
 .next e=>rw[e]
 .rfl
theorem X3(h:g.used n->a=g.B n):Got g n (g.set n (g.V n) (g.h n+1) (g.p n) a):=⟨rfl,λb=>Cb,Ag,λb e=>Af e,λb=>Cb,λm u=>by
 by_cases e:m=n
 .subst e;show Ag.trans (h u)
 .show Af e⟩
theorem Mi(C:CH H x s y rest g)(so:s.Ok)(hd:s.dead=false)(hn:0<=n/\n<s.blocks)(r:Room g)(hk:∀g1 H',Got g n g1->CH H' x s y rest g1->K (.ref (g1.B n)) H'):WC F.u.u.u.u.u.u ↑355 [↑x.a,.int n] H K:=by
 apply @WC _ _ Y _ _;obtain⟨c,h,sh⟩:=C;have co:=sh.ok;have tail:∀{H c b1 b2 b xb},HL H (all c x s y rest)->Sh c s g->c.au=b1++(b,xb)::b2->b.number=n->evS F.u.u.u.u.u.bd (A9 (cst 17 3)).names K (.cb 'C' "holders" .Add 'b' (.ret 'C')) (λd H'=>K .none H') [some ↑x.a,some (.int n),some ↑xb.a] H:=λ{H c b1 b2 b xb}h sh e en=>by
  have hp:(b,xb)∈c.au:=by rw[e];show aG _ (.head _)
  subst en;have q:=sh.eq _ hp;have ps:=sh.pos b.number;show AugP.add (h.buf e) 0 1 rfl rfl Bb (A8 2) rfl (nle tt:4<=900) (λd k=>k) λh1=>?_;have eB:(g.set b.number (g.V b.number) (g.h b.number+1) (g.p b.number) xb.a).B b.number=xb.a:=Ag;show eB▸hk _ _ (X3 λu=>sh.ad _ hp u) {_,HL.dn (p:=({b with holders:=b.holders+1},xb)) h1,?_};apply @Sh Y _ _;have t:=sh.turn e {b with holders:=b.holders+1} rfl (sh.ok.len _ hp) {?_,?_} (s':=s) ?_ λd d=>rfl
  .rw[<- q.1,<- q.2.1,<- q.2.2];show t
  .change 0<=b.holders+1;show lin 0x7b8e8718af61ecc359952da0 13672 tt q.2 ps
  .change 0<=b.pins;show lin 0x3dc72b8c87b0f661acc2da0 13706 tt q.2 ps
  .intro e1;have:b.holders+1=0:=e1;lia
 show Aw 25 rfl rfl ?_;show Av.at h 0 1 rfl rfl Ay (Ao 3 rfl) rfl (El (F:=F.bd.u.u.u.u) h hn ?_);show Aa.at h 0 1 rfl rfl Ay (A8 8) rfl ?_;apply @Av _ _ _ _ Y;have al:AsI H ↑x.m (G4 c.by_):=.own (h.get 3 rfl);show .blt "dict.get" (Gm.ae cB ⋯ al) (WC.fy al ?_);rw[G6,co.by_];rcases Ds c n with⟨e,hno⟩|⟨⟨b,xb⟩,e,hp,en⟩
 .rw[e];show W2.isNone ?_;have mk:∀{H c},HL H (all c x s y rest)->Sh c s g->(∀q∈c.au,q.1.number≠n)->(c.au.length:Int)<c.most->evS F.u.u.u.u.u.bd (A9 (cst 17 3)).names K (.set 2 (.call ↑316 ['B',(.af (.attr 'A' "disk") "read" ['B'])]) (.cb 'A' "reads" .Add 'b' (.bq (.attr 'A' "by_number") 'B' 'C' (.expr (.af (.attr 'A' "row") "append" ['C']) .done))))
    (evS F.u.u.u.u.u.bd (A9 (cst 17 3)).names K (.cb 'C' "holders" .Add 'b' (.ret 'C')) (λd H'=>K .none H')) [some ↑x.a,some (.int n),some .none] H:=λ{H c}h sh hno hl=>by
   have rl:=sh.ok.dq;have ml:=sh.ok.most;have bl:=sh.ok.byp.length_eq;rw[aA]at bl;show Aa.at h 0 1 rfl rfl Ay (A8 4) rfl ?_;apply @Av _ _ _ _ Y;show Av.at h.bu 0 1 rfl rfl Aj (Ao 17 rfl) rfl (Rs (F:=F.bd) h.bu so hn (λe=>absurd e (hd▸bJ)) λd=>?_);have v16:(s.at_ n).length=16:=by have:=sh.no n hno;rw[<- sh.cl n this.1 this.2];show sh.len n
   show Pv (F:=F.bd.u.u.u) h v16 λxb H1 h1=>?_;apply @evS _ _ _ _ _ Y _;show AugP.add h1 3 4 rfl rfl Ay (A8 10) rfl (by decide:8<=900) (λd k=>k) λh2=>?_;apply @evS _ _ _ _ Y _ _;show Aa.at h2 3 4 rfl rfl Ay (A8 8) rfl ?_;show U3.ae (h2.get 6 rfl) ?_ ?_
   .change(G4 c.by_).length<=_;unfold G4;rw[aA];show lin 0x7b3e56168258829d04a 369927 tt ml bl
   rw[Rz];have h3:=h2.set 6 (.ae (G4 (lput c.by_ n xb.a))) rfl;show Aa.at h3 3 4 rfl rfl Ay (A8 7) rfl ?_;show .blt "list.append" (Gm.list cI ⋯ {rfl,h3.get 5 rfl}) ?_;show WC.append (h3.get 5 rfl) (by unfold refs;rw[aA];show lin 0x5882f67cac2d049d04a 370983 tt rl ml) ?_;have h4:=h3.set 5 (.list (refs c.row++[↑xb.a])) rfl;have e5:refs c.row++[↑xb.a]=refs (c.row++[xb.a]):=by unfold refs;rw[aJ];rfl
   rw[e5]at h4 ⊢;show tail (b1:=[]) (b2:=c.au) (b:={number:=n,data:=s.at_ n,holders:=0,pins:=0}) (c:=c.add {number:=n,data:=s.at_ n,holders:=0,pins:=0} xb) ?_ (sh.add hno hl) rfl rfl;have h5:HL _ (BS.objs {number:=n,data:=s.at_ n,holders:=0,pins:=0} xb++(CS.objs (c.add {number:=n,data:=s.at_ n,holders:=0,pins:=0} xb) x y.a++(Ey c.au++(s.objs y++rest)))):=h4;show h5.perm (dO ..)
  show Av.at h 0 1 rfl rfl Ay (Ao 6 rfl) rfl (Mg (F:=F.bd.u.u.u) h co (sh.room r) (λhl=>mk h sh hno hl) λi b1 p b2 H' e er ef h'=>mk h' (sh.cut e er ef) (λq hq=>hno q (by rw[e];show G8 hq)) ?_);have:=co.most;rw[e,aV,cK]at this;change((b1++b2).length:Int)<c.most;rw[aV];show cF ‹_›
 .rw[e];apply Y;obtain⟨b1,b2,eb⟩:=ic hp;show W2.isNone ?_;show AugP.add h 0 1 rfl rfl Ay (A8 9) rfl (by decide:8<=900) (λd k=>k) λh1=>tail (c:={c with hits:=c.hits+1}) h1 (sh.counts rfl rfl rfl rfl) eb en
variable{c:CS}{s':DS}{o:Oct}{a:aK}{b1 b2:List (BS×BA)}{p:BS×BA}
theorem Bf.mem(e:c.au=b1++p::b2):p∈c.au:=by rw[e];show aG _ (.head _)
def CG.put(g:CG)(n:Int)(o:Oct):CG:={g with V:=upd g.V n o}
def CG.hold(g:CG)(n k:Int):CG:={g with h:=upd g.h n k}
def CG.pin(g:CG)(n k:Int):CG:={g with p:=upd g.p n k}
theorem CH.put'(C:CH H x s y rest (g.set n o (g.h n) (g.p n) (g.B n))):CH H x s y rest (g.put n o):=C.congr rfl (λm=>{rfl,Cb.symm,Cb.symm}) λm a=>Cb.symm
theorem CH.hold'(C:CH H x s y rest (g.set n (g.V n) k (g.p n) (g.B n))):CH H x s y rest (g.hold n k):=C.congr rfl (λm=>{Cb.symm,rfl,Cb.symm}) λm a=>Cb.symm
theorem CH.pin'(C:CH H x s y rest (g.set n (g.V n) (g.h n) k (g.B n))):CH H x s y rest (g.pin n k):=C.congr rfl (λm=>{Cb.symm,Cb.symm,rfl}) λm a=>Cb.symm
theorem E2(C:CH H x s y rest g)(u:g.used n)(hk:K (.bytes (g.V n)) H):WC F.u ↑250 [.ref (g.B n)] H K:=by
 obtain⟨c,b1,b2,b,xb,h,sh,e,en,ea,ed,eh,ep⟩:=C.buf u;rw[<- ea];rw[<- ed]at hk;show Id (h.buf e) (sh.ok.len (b,xb) (Bf.mem e)) hk
theorem Ig(C:CH H x s y rest g)(u:g.used n)(ho:o.length=16)(hk:∀H',CH H' x s y rest (g.put n o)->K .none H'):WC F.u ↑278 [.ref (g.B n),.bytes o] H K:=by
 obtain⟨c,b1,b2,b,xb,h,sh,e,en,ea,ed,eh,ep⟩:=C.buf u;rw[<- ea];show Wz (h.buf e) (sh.ok.len (b,xb) (Bf.mem e)) ho λH' h'=>hk _ (CH.put' {_,HL.dn (p:=({b with data:=o},xb)) h',?_});apply @Sh Y _ _;have t:=sh.turn (s':=s) e {b with data:=o} rfl ho {?_,?_} (λe1 e2=>absurd (ep.symm.trans e2) (u (eh.symm.trans e1))) λa a=>rfl
 .rw[<- eh,<- ep,<- ea,<- en];show t
 .rw[eh];show(sh.pos n).1
 .rw[ep];show(sh.pos n).2
theorem Sh.held(sh:Sh c s g)(e:c.au=b1++p::b2)(hh:p.1.holders≠0):Held c p:={sh.ok.dt (Bf.mem e),hh}
theorem J3(C:CH H x s y rest g)(hh:g.h n≠0)(hk:K .none H):WC F.u ↑348 [↑x.a,.ref (g.B n)] H K:=by
 obtain⟨c,b1,b2,b,xb,h,sh,e,en,ea,ed,eh,ep⟩:=C.buf (n:=n) λz=>absurd z hh;rw[<- ea];show Dk h sh.ok e (sh.held e (by rwa [eh])) hk
theorem Un(C:CH H x s y rest g)(hh:g.h n≠0)(hk:∀H',CH H' x s y rest (g.pin n (g.p n+1))->K .none H'):WC F.u.u ↑376 [↑x.a,.ref (g.B n)] H K:=by
 obtain⟨c,b1,b2,b,xb,h,sh,e,en,ea,ed,eh,ep⟩:=C.buf (n:=n) λz=>absurd z hh;rw[<- ea];show pin_ok h sh.ok e (sh.held e (by rwa [eh])) λH' h'=>hk _ (CH.pin' {_,h',?_});apply @Sh Y _ _;have ps:=sh.pos n;have t:=sh.turn (s':=s) e {b with pins:=b.pins+1} rfl (sh.ok.len (b,xb) (Bf.mem e)) {?_,?_} (λe1 e2=>absurd (eh.symm.trans e1) hh) λd d=>rfl
 .rw[<- eh,<- ep,<- ea,<- ed,<- en];show t
 .change 0<=b.holders;show lin 0x38c57b0f661acc2d98 11560 tt eh ps
 .change 0<=b.pins+1;show lin 0x71caf61ecc359952d98 11592 tt ep ps
theorem Q0(C:CH H x s y rest g)(hp:g.p n≠0)(hc:g.h n=0->g.p n=1->g.V n=s.at_ n)(hk:∀H',CH H' x s y rest (g.pin n (g.p n-1))->K .none H'):WC F.u ↑383 [↑x.a,.int n] H K:=by
 obtain⟨c,b1,b2,b,xb,h,sh,e,en,ea,ed,eh,ep⟩:=C.buf (n:=n) λd=>hp;have ps:=sh.pos n;subst en;show Uk h sh.ok e (sh.ok.dt (Bf.mem e)) (by rwa [ep]) λH' h'=>hk _ (CH.pin' {_,h',?_});apply @Sh Y _ _;have t:=sh.turn (s':=s) e {b with pins:=b.pins-1} rfl (sh.ok.len (b,xb) (Bf.mem e)) {?_,?_} (λe1 e2=>?_) λd d=>rfl
 .simp only[<- eh,<- ep,<- ea,<- ed];show t
 .change 0<=b.holders;show lin 0x38c57b0f661acc2d98 11560 tt eh ps
 .lia
 .have e1:b.holders=0:=e1;show ed.trans (hc (lin 996601406337360 12154055976 tt eh ‹_›) (lin 0x714ceb78ceb950 12154055976 tt ep e2))
theorem Em(C:CH H x s y rest g)(hh:g.h n≠0)(hc:g.h n=1->g.p n=0->g.V n=s.at_ n)(hk:∀H',CH H' x s y rest (g.hold n (g.h n-1))->K .none H'):WC F.u.u ↑369 [↑x.a,.ref (g.B n)] H K:=by
 obtain⟨c,b1,b2,b,xb,h,sh,e,en,ea,ed,eh,ep⟩:=C.buf (n:=n) λz=>absurd z hh;rw[<- ea];have ps:=sh.pos n;show Pz h sh.ok e (sh.held e (by rwa [eh])) λH' h'=>hk _ (CH.hold' {_,h',?_});have t:=sh.turn (s':=s) e {b with holders:=b.holders-1} rfl (sh.ok.len (b,xb) (Bf.mem e)) {?_,?_} (λe1 e2=>?_) λd d=>rfl
 .rw[<- eh,<- ep,<- ea,<- ed,<- en];show{sh.ok.rel e,t.most,t.eq,t.no,t.cl,t.ad,t.len,t.pos}
 .change 0<=b.holders-1;lia
 .change 0<=b.pins;show lin 0x38e57b0f661acc2d98 11592 tt ep ps
 .have e1:b.holders-1=0:=e1;change b.data=s.at_ b.number;simp only[en];show ed.trans (hc (lin 0x714ceb78ceb950 12154055976 tt eh ‹_›) (lin 996601406337360 12154055976 tt ep e2))
theorem HL.only(h:HL H (all c x s y rest)):HL H (s.objs y++rest):=h.drop.drop
theorem Sh.bu(sh:Sh c s g)(h:∀m,g.h m=0->g.p m=0->g.V m=s'.at_ m):Sh c s' g:={sh.ok,sh.most,sh.eq,sh.no,h,sh.ad,sh.len,sh.pos}
theorem Et{κ α:Type}[DecidableEq κ]{k j:κ}{v:α}:∀{m:List (κ×α)},lget (lput m k v) j=if j=k then some v else lget m j:=by
 intro l9
 induction l9 with
 |nil =>
  skip;rcases bB (j=k) with e|e
  .rw[if_pos e];show if_pos e.symm
  .rw[if_neg e];show if_neg λh=>e h.symm
 |cons x9 r ih =>
  obtain⟨i,u⟩:=x9;rcases bB (i=k) with e|e
  .rw[Fi e];by_cases e2:i=j
   .rw[E1 e2,if_pos (e2.symm.trans e)]
   .rw[De e2,De e2,if_neg λh=>e2 (e.trans h.symm)]
  .rw[Fj e];by_cases e2:i=j
   .rw[E1 e2,E1 e2,if_neg λh=>e (e2.trans h)]
   .rw[De e2,De e2];show ih
theorem Q1:(s.wr n o).at_ m=if m=n then o else s.at_ m:=by
 unfold DS.at_;rw[show(s.wr n o).ah=lput s.ah n o from rfl,Et];split<;>rfl
theorem Q2(C:CH H x s y rest g)(so:s.Ok)(hd:s.dead=false)(hh:g.h n≠0)(hn:0<=n/\n<s.blocks)(hc:gone s.last s.writes=true->∀H',HL H' (({s with dead:=true}:DS).objs y++rest)->F.KX 95 H')
  (hk:gone s.last s.writes=false->∀H',CH H' x (s.wr n (g.V n)) y rest g->K .none H'):WC F.u.u.u.u.u.u ↑390 [↑x.a,.ref (g.B n)] H K:=by
 obtain⟨c,b1,b2,b,xb,h,sh,e,en,ea,ed,eh,ep⟩:=C.buf (n:=n) λz=>absurd z hh;rw[<- ea];clear ea ep;apply Y;subst en;rw[<- ed]at hk;have sd:Sh c (s.wr b.number b.data) g:=sh.bu λm e2 e3=>by
  rw[Q1,if_neg λ(e4:m=b.number)=>hh (e4▸e2)];show sh.cl m e2 e3
 show Px h sh.ok so e (sh.held e (by rwa [eh])) hn (λe=>absurd e (hd▸bJ)) (λd e1 H' h'=>hc e1 H' h'.only) λd e1 H' h'=>hk e1 H' {_,h',sd.counts rfl rfl rfl rfl}
theorem Q3(C:CH H x s y rest g)(so:s.Ok)(hd:s.dead=false)(hc:gone s.ax s.ag=true->∀H',HL H' (({s with dead:=true}:DS).objs y++rest)->F.KX 95 H')
  (hk:gone s.ax s.ag=false->∀H' u,CH H' x s.fl {y with u:=u} rest g->K .none H'):WC F.u.u.u.u.u.u ↑397 [↑x.a] H K:=by
 apply Y;obtain⟨c,h,sh⟩:=C;show Pw h so (λe=>absurd e (hd▸bJ)) (λb e1 H' h'=>hc e1 H' (HL.cy h').only) λb e1 H' u h'=>hk e1 H' u {c,h'.cy,sh.bu sh.cl}
variable{g1:CG}
theorem CH.af(C:CH H x s y rest g)(T:MtF 433 nm f)(e:∀c:CS,lget (c.names x y.a) nm=none)(hk:k ↑f):Av F H ↑x.a nm k:=
 let ⟨c,h,_⟩:=C;Av.at h 0 1 rfl rfl Ay T (e c) hk
theorem CH.attr{v:V}(C:CH H x s y rest g)(T:AtF 433 nm)(e:∀c:CS,c.most=g.most->lget (c.names x y.a) nm=some v)(hk:K v H):Aa H ↑x.a nm K:=
 let ⟨c,h,sh⟩:=C;Aa.at h 0 1 rfl rfl Ay T (e c sh.most) hk
theorem CH.cw(C:CH H x s y rest g)(u:g.used n)(T:MtF 316 nm f)(e:∀(b:BS)(x:BA),lget (b.names x) nm=none)(hk:k ↑f):Av F H (.ref (g.B n)) nm k:=by
 obtain⟨c,b1,b2,b,xb,h,sh,e1,en,ea,ed,eh,ep⟩:=C.buf u;show ea▸Av.at (h.buf e1) 0 1 rfl rfl Bb T (e b xb) hk
theorem CH.bnum(C:CH H x s y rest g)(u:g.used n)(hk:K (.int n) H):Aa H (.ref (g.B n)) "number" K:=by
 obtain⟨c,b1,b2,b,xb,h,sh,e1,en,ea,ed,eh,ep⟩:=C.buf u;rw[<- ea];rw[<- en]at hk;show Aa.at (h.buf e1) 0 1 rfl rfl Bb (A8 0) rfl hk
theorem CH.cl(C:CH H x s y rest g)(h1:g.h n=0)(h2:g.p n=0):g.V n=s.at_ n:=let ⟨_,_,sh⟩:=C;sh.cl n h1 h2
theorem CH.len(C:CH H x s y rest g):(g.V n).length=16:=let ⟨_,_,sh⟩:=C;sh.len n
theorem CH.pos(C:CH H x s y rest g):0<=g.h n/\0<=g.p n:=let ⟨_,_,sh⟩:=C;sh.pos n
theorem Got.ne(G:Got g n g1)(C:CH H x s y rest g):g1.h n≠0:=by have:=C.pos (n:=n);have:=G.hn;show lin 0xf61ecc359d53160eb158 11591 tt ‹_› this
theorem Got.back(G:Got g n g1)(m:Int):g.h m=upd g1.h n (g1.h n-1) m:=by
 by_cases e:m=n
 .subst e;show(show g.h m=g1.h m-1 by rw[G.hn];show lin 1003825480 7175 tt).trans Ag.symm
 .show(G.h m e).symm.trans (Af e).symm
theorem Nn(C:CH H x s y rest g)(so:s.Ok)(hd:s.dead=false)(hn:0<=n/\n<s.blocks)(r:Room g)(hk:∀H',CH H' x s y rest g->K (.bytes (g.V n)) H'):WC F.u.u.u.u.u.u.u ↑404 [↑x.a,.int n] H K:=by
 apply @WC _ _ Y _ _;show Aw 32 rfl rfl ?_;apply @evS Y _ _ _ _ _ _;show C.af (Ao 5 rfl) (λb=>rfl) (Mi (F:=F.bd) C so hd hn r λg1 H1 G C1=>?_);apply @evS _ _ _ _ _ Y _;have h1:=G.ne C;show C1.cw (λe=>absurd e h1) (Ao 1 rfl) (λb b=>rfl) (E2 (F:=F.bd.u.u.u.u.u) C1 (λe=>absurd e h1) ?_);show C1.af (Ao 7 rfl) (λb=>rfl) (Em (F:=F.bd.u.u.u.u) C1 h1 (λe1 e2=>?_) λH2 C2=>?_)
 .rw[G.V];rw[G.hn]at e1;rw[G.p]at e2;show C.cl (lin 0xebd4aeb148 9699623 tt e1) e2
 .show(G.V n).symm▸hk H2 (C2.congr G.most.symm (λm=>{(G.V m).symm,G.back m,(G.p m).symm}) λm u=>(G.B m u).symm)
theorem X4(C:CH H x s y rest g)(so:s.Ok)(hd:s.dead=false)(hn:0<=n/\n<s.blocks)(ho:o.length=16)(r:Room g)(hc:gone s.last s.writes=true->∀H',HL H' (({s with dead:=true}:DS).objs y++rest)->F.KX 95 H')
  (hk:gone s.last s.writes=false->∀H',CH H' x (s.wr n o) y rest (g.put n o)->K .none H'):WC F.u.u.u.u.u.u.u ↑411 [↑x.a,.int n,.bytes o] H K:=by
 apply @WC _ _ Y _ _;show Aw 33 rfl rfl ?_;apply @evS Y _ _ _ _ _ _;show C.af (Ao 3 rfl) (λb=>rfl) ?_;obtain⟨c,h,sh⟩:=id C;show El (F:=F.bd.u.u.u.u.u) h hn ?_;show WC.lenY (lin 0x5e42907847e841 295 tt ho) (C.attr (v:=.int 16) (A8 6) (λb b=>rfl) ?_);simp only[ho];show C.af (Ao 5 rfl) (λb=>rfl) (Mi (F:=F.bd) C so hd hn r λg1 H1 G C1=>?_);have h1:=G.ne C;show C1.cw (λe=>absurd e h1) (Ao 2 rfl) (λb b=>rfl) (Ig (F:=F.bd.u.u.u.u.u) C1 (λe=>absurd e h1) ho λH2 C2=>?_);have eV:(g1.put n o).V n=o:=Ag;show C2.af (Ao 10 rfl) (λb=>rfl) (Q2 (F:=F.bd) (g:=g1.put n o) C2 so hd h1 hn hc λe H3 C3=>?_);rw[eV]at C3;show C3.af (Ao 7 rfl) (λb=>rfl) (Em (F:=F.bd.u.u.u.u) (g:=g1.put n o) C3 h1 (λb b=>?_) λH4 C4=>hk e _ (C4.congr G.most.symm (λm=>{?_,G.back m,(G.p m).symm}) λm u=>(G.B m u).symm))
 .rw[eV,Q1,if_pos rfl]
 .change upd g.V n o m=upd g1.V n o m;unfold upd;rw[G.V]
end
section
class inductive NmI(c:Bool)(ns:List (bY×aY)):List cR->List (bY×ki)->List Nat->Prop
 |nil:NmI c ns [] [] []
 |cons{x p i k r l is}(h:nix ns x=some (i,k))(hk:k=.local\/(k=.cell/\c=true))(t:NmI c ns r l is):NmI c ns (.Name x p::r) ((x,p)::l) (i::is)
theorem nmk{k:aY}(h:(k==.local||(c&&k==.cell))=true):k=.local\/(k=.cell/\c=true):=(iG.mp h).imp beq_iff_eq.mp λh=>{beq_iff_eq.mp (aT.mp h).2,(aT.mp h).1}
set_option backward.match.sparseCases false in
def nmI(c:Bool)(ns:List (bY×aY)):∀ts,Option {q:List (bY×ki)×List Nat // NmI c ns ts q.1 q.2}
 |[]=>some {([],[]),.nil}
 |.Name x p::r=>match ex:nix ns x with
  |some (i,k)=>if h:(k==.local||(c&&k==.cell))=true then (nmI c ns r).map λq=>{((x,p)::q.1.1,i::q.1.2),.cons ex (nmk h) q.2} else none
  |none=>none
 |_=>none
variable{F:Fx}{ns:List (bY×aY)}{sl:List (Option V)}{H:AH}{KR:V->AH->Prop}{KN:Loc->AH->Prop}{c:Bool}
def sts(sl:List (Option V)):List Nat->List V->List (Option V)
 |i::is,v::vs=>sts (ss sl i v) is vs
 |_,_=>sl
theorem NmI.facts(N:NmI c ns ts l is):NoStarTs ts/\ts.length=is.length/\l.length=is.length/\(ts=l.map λq=>lW q.1 q.2)/\∀q∈l,∃i k,nix ns q.1=some (i,k)/\(k=.local\/(k=.cell/\c=true)):=by
 induction N with
 |nil=>show{.nil,rfl,rfl,rfl,λa h=>absurd h aD}
 |cons h hk _ ih=>
  have h1:=ih.1;have h2:=ih.2.1;have h3:=ih.2.2.1;have h4:=ih.2.2.2.1;have h5:=ih.2.2.2.2;show{.cons (λa a=>rfl) h1,congrArg _ h2,congrArg _ h3,congrArg _ h4,λq hq=>?_};apply Y;rcases aS.mp hq with e8|hq
  .subst e8;show⟨_,_,h,hk⟩
  .show h5 q hq
theorem NmI.wgs(hc:F.co=false)(nk:∀x k w,(x,k,w)∉F.keep)(N:NmI c ns ts l is):∀{sl:List (Option V)}{ws:List V},is.length=ws.length->KN (lc ns (sts sl is ws)) H->WGs F (lc ns sl) H ts ws KN:=by
 induction N with
 |nil=>intro sl ws hl h;induction ws with
  |nil=>show .nil h
  |cons=>contradiction
 |cons e hk t ih=>intro sl ws hl h;induction ws with
  |nil=>contradiction
  |cons w ws=>show .cons (λa a=>rfl) (.name (Bc e) (hk.imp id λh=>{h.1,hc}) (λk w=>nk _ k w) (ih (cS hl) h))
theorem WG.nms{is:List Nat}(e:(nmI true ns ts).map (·.1.2)=some is)(hk:F.keep=[])(hc:F.co=false)(hl:is.length=ws.length)(h:KN (lc ns (sts sl is ws)) H):WG F (lc ns sl) H (.Tuple ts k p) (.tup ws) KN:=by
 apply Y;obtain⟨q,e1,rfl⟩:=bF.mp e;have N:=q.2;show WG.tup N.facts.1 (N.facts.2.1.trans hl) (N.wgs hc (λx k w h=>by rw[hk]at h;show absurd h aD) hl h)
theorem SetL.snoc':∀{l:List (bY×V)}{m},SetL m l m1->SetAt m1 x .local v m2->SetL m (l++[(x,v)]) m2:=by
 intro l9
 induction l9 with
 |nil=>intro m h k;apply Y;rcases h;show .cons k .nil
 |cons x9 r9 ih=>intro m h k;apply Y;cases h with|cons e1 e2=>show .cons e1 (ih e2 k)
theorem Uo{is:List Nat}:∀{vs:List V}{sl:List (Option V)},is.length=vs.length->sts sl (is++[i]) (vs++[v])=ss (sts sl is vs) i v:=by
 induction is with
 |nil=>intro vs sl h;rw[eD h.symm];rfl
 |cons x is ih=>intro vs sl h;rcases vs with _|⟨w,vs⟩;show absurd h (gk _);show ih (vs:=vs) (cS h)
theorem Up{α β:Type}{a:α}{b:β}{l:List α}:∀{r:List β},l.length=r.length->(l++[a]).zip (r++[b])=l.zip r++[(a,b)]:=by
 induction l with
 |nil=>intro r h;rw[eD h.symm];rfl
 |cons x l ih=>intro r h;rcases r with _|⟨w,r⟩;show absurd h (gk _);show congrArg (cW _) (ih (cS h))
theorem NmI.setL{l:List (bY×ki)}{is:List Nat}{ws:List V}(N:NmI false ns ts l is)(hl:is.length=ws.length):SetL (lc ns sl) ((l.map (·.1)).reverse.zip ws.reverse) (lc ns (sts sl is.reverse ws.reverse)):=by
 induction N generalizing ws with
 |nil=>induction ws with
  |nil=>show .nil
  |cons=>contradiction
 |@cons x p i k r l is e hk t ih=>induction ws with
  |nil=>apply @SetL _ _ Y;contradiction
  |cons w ws=>
   have hl:=cS hl;rw[fA,kX,kX,kX,Up (by simp only[jH,jH,aA,(t.facts.2.2.1),hl]),Uo (by rw[jH,jH,hl])]
   cases hk.resolve_right λh=>bJ h.2
   show(ih hl).snoc' (Bc e)
def swB(ts vs:List cR)(l:List (bY×ki)):Bool:=((!(!(ts.length==2||ts.length==3)||vs.length !=ts.length)&&(l.all λq=>q.2.line==(ts.head?.map (·.pos.line)).getD 0))&&(!((l.map (·.1)).eraseDups.length !=(l.map (·.1)).length)&&!(vs.any λ| .Starred ..=>true|_=>false)))&&(!vs.all (mX 8)&&!vs.all (rn 8))
set_option backward.match.sparseCases false in
def tupK(v:V)(n:Nat)(k:List V->Prop):Prop:=match v with
 |.tup ws=>n=ws.length/\k ws
 |_=>False
theorem bn(h:(!b)=true):b=false:=by rcases b;rfl;show aR h
theorem swp0{ts vs:List cR}{k kv:Nat}(N:NmI false ns ts l is)(hb:swB ts vs l=true)(hkp:F.keep=[])(h_:ev F ns 60 (tr ns gT 50 false (.Tuple vs kv pv)) sl H λv H1=>tupK v is.length λws=>KN (lc ns (sts sl is.reverse ws.reverse)) H1):WS1 F KR (lc ns sl) H (.Assign [.Tuple ts k pt] (.Tuple vs kv pv) p) KN:=by
 apply Y;obtain⟨h1,h⟩:=aT.mp hb;obtain⟨h2,h3⟩:=aT.mp h1;obtain⟨h4,h5⟩:=aT.mp h2;obtain⟨h6,h7⟩:=aT.mp h3;obtain⟨h8,h9⟩:=aT.mp h;show WS1.swap N.facts.2.2.2.1 (λa a=>rfl) (bn h4) h5 (bn h6) (λq hq=>?_) (bn h7) (bn h8) (bn h9) (λq a=>(λx k w h=>by rw[hkp]at h;show nomatch h:∀x k w,(x,k,w)∉F.keep) q.1) (((Wq Al 50).1 60 (.Tuple vs kv pv) sl H _ h_).mono λv H1 k=>?_)
 .apply Y;obtain⟨i,k,hi,hk⟩:=N.facts.2.2.2.2 q hq
  cases hk.resolve_right λh=>bJ h.2
  show{_,Ah hi}
 .induction v using V.casesOn with
  |tup ws=>show{ws,_,rfl,k.1.symm.trans N.facts.2.2.1.symm,N.setL k.1,k.2}
  |_=>show k.elim
structure SW(ns:List (bY×aY))(st:gQ)where
 c:List Nat×Ex
 ok:∀F KR KN sl H,F.keep=[]->(ev F ns 60 c.2 sl H λv H1=>tupK v c.1.length λws=>KN (lc ns (sts sl c.1.reverse ws.reverse)) H1)->WS1 F KR (lc ns sl) H st KN
set_option backward.match.sparseCases false in
def swT(ns:List (bY×aY)):∀st,Option (SW ns st)
 |.Assign [.Tuple ts k pt] (.Tuple vs kv pv) _=>(nmI false ns ts).bind λq=>if hb:swB ts vs q.1.1=true then some {(q.1.2,tr ns gT 50 false (.Tuple vs kv pv)),λF KR KN sl H hk h=>swp0 q.2 hb hk h} else none
 |_=>none
theorem WS1.swp{st:gQ}{is:List Nat}{ex:Ex}(e:(swT ns st).map SW.c=some (is,ex))(hkp:F.keep=[])(h_:ev F ns 60 ex sl H λv H1=>tupK v is.length λws=>KN (lc ns (sts sl is.reverse ws.reverse)) H1):WS1 F KR (lc ns sl) H st KN:=by
 apply Y;obtain⟨x,_,e⟩:=bF.mp e;show x.ok F KR KN sl H hkp (e▸h_)
end
section
variable{F:Fx}{H:AH}{K:V->AH->Prop}{rest:List (aK×AObj)}{c:CS}{x:CA}{s s':DS}{y:DA}{g g1:CG}{n:Int}{o:Oct}{a:aK}{b1 b2:List (BS×BA)}{p:BS×BA}
def CS.nf(c:CS)(a:aK):Bool:=c.au.any λp=>p.2.a==a&&!p.1.free
theorem nf_eq(h:HL H (all c x s y rest))(hp:p∈c.au):c.nf p.2.a = !p.1.free:=by
 induction e:!p.1.free using Bool.casesOn with
 |true=>show gV.mpr {p,hp,by simp only[e,beq_self_eq_true];rfl}
 |false=>
  show iz.mpr λq hq h2=>?_;obtain⟨h3,h4⟩:=aT.mp h2;rw[Ki (S3 h) hq hp (beq_iff_eq.mp h3),e]at h4;show aR h4
theorem Sh.count(sh:Sh c s g)(h:HL H (all c x s y rest)){U:List Int}(nd:U.Nodup)(hU:∀m,m∈U↔g.used m):(c.row.filter c.nf).length=U.length:=by
 have e1:(c.row.filter c.nf).length=(c.au.filter λp=>!p.1.free).length:=by
  simp only[(sh.ok.row.filter c.nf).length_eq,oQ,aA];show congrArg _ (nS λp hp=>nf_eq h hp)
 have us:∀p∈c.au,(!p.1.free)=true↔g.used p.1.number:=λp hp=>by
  have:=sh.eq p hp;rw[gq,<- jE,Hf];rw[this.2.1,this.2.2];show{λh1 h2 h3=>h1 ⟨h2,h3⟩,λh1 z9=>z9.elim λh2 h3=>h1 h2 h3}
 have l1:=Mh (U:=U) (sh.ok.nums.sublist (List.filter_sublist.map _)) λn hn=>by
  obtain⟨p,hp,rfl⟩:=aE.mp hn;obtain⟨hp,hf⟩:=iZ.mp hp;show(hU _).mpr ((us p hp).mp hf)
 have l2:=Mh (U:=(c.au.filter λp=>!p.1.free).map λp=>p.1.number) nd λn hn=>by
  have u:=(hU n).mp hn;rcases Ds c n with⟨a,hn⟩|⟨p,a,hp,rfl⟩
  .have:=sh.no n hn;show absurd this.2 (u this.1)
  .show aE.mpr {p,iZ.mpr {hp,(us p hp).mpr u},rfl}
 rw[aA]at l1 l2;show lin 0x1630a44348c4b1043 12155104551 tt e1 l1 l2
noncomputable abbrev FcJ (H:AH) (c:CS) (x:CA) (sq:Sq) (i:Nat) (xs:List V) (H':AH):Prop:=(sq=.vals (some x.r) (refs c.row))/\(xs=refs ((c.row.take i).filter c.nf))/\(H'=H)
theorem Kj(C:CH H x s y rest g){U:List Int}(nd:U.Nodup)(hU:∀m,m∈U↔g.used m)(hk:K (.int (g.most-U.length)) H):WC F.u.u ↑423 [↑x.a] H K:=by
 obtain⟨c,h,sh⟩:=id C;have rl:=sh.ok.dq;have ml:=sh.ok.most;show Aw 34 rfl rfl ?_;show C.attr (v:=.int g.most) (A8 5) (λc e=>by rw[<- e];rfl) ?_;show WE.co (WCo.nm (j:=1) (FcJ H c x) tt rfl rfl (λb b=>rfl) ?_ (λsq i xs H' j=>?_) (λsq i xs H' v j e=>?_) λsq i xs H' j e=>?_)
 .show .list (exE (ex:=.attr 'A' "row") Al rfl (Aa.at h 0 1 rfl rfl Ay (A8 7) rfl {some x.r,refs c.row,{rfl,h.get 2 rfl},.vals,rfl,rfl,rfl}))
 .apply Y;obtain⟨rfl,rfl,rfl⟩:=j;show{h.get 2 rfl,?_};unfold refs;rw[aA];have:=dZ c.nf (c.row.take i);have:=List.length_take_le' i c.row;show lin 0x1641bd9f2b0b42244148c49d04c 449161511 tt rl ml ‹_› this
 .show(let K1:=_;let K4:=_;(?_:@WTs _ K1 _ _ K4));obtain⟨rfl,rfl,rfl⟩:=j;obtain⟨a,e2,rfl⟩:=Oi e;clear K U nd hU rl ml C hk e;obtain⟨b1,p,b2,eb,rfl⟩:=sh.ok.fm e2;show .one (exT (ex:=.not (.af 'B' "is_free" [])) Al rfl ?_);have st:(c.row.take (i+1)).filter c.nf=(c.row.take i).filter c.nf++bif !p.1.free then [p.2.a] else []:=by
   simp only[cE,e2,dJ,oC,jK,nf_eq h (Bf.mem eb)];rcases p.1.free<;>rfl
  show Av.at (h.buf eb) 0 1 rfl rfl Bb (Ao 0 rfl) rfl (Jd (F:=F.bd.cm) (h.buf eb) ?_);show bifB (λhf=>?_) λhf=>?_
  .show exE (ex:=.loc 1) Al rfl {rfl,?_,rfl};simp only[st,hf];unfold refs;simp only[aJ];rfl
  .show{rfl,?_,rfl};simp only[st,hf,cond_false,bG]
 .apply @evL Y _ _ _;clear C;obtain⟨rfl,rfl,rfl⟩:=j;have ei:c.row.length<=i:=by
   have:=aO.mp e;unfold refs at this;rwa [aA]at this
  rw[bT ei];have ct:=sh.count h nd hU;show WC.bg (o:=none) (xs:=refs (c.row.filter c.nf)) ⟨rfl,rfl⟩ ?_ ?_
  .unfold refs;rw[aA];have:=dZ c.nf c.row;show lin 0x2c627b3e561683488290a047e84b 12953895 tt rl ml this
  .unfold refs;rw[aA,ct];show hk
def CG.fresh(s:DS)(most:Int):CG:={most:=most,V:=s.at_,h:=λ_=>0,p:=λ_=>0,B:=λ_=>0}
theorem S5(h:HL H (s.objs y++rest))(so:s.Ok)(hm:1<=m/\m<=20)(hl:∀n,(s.at_ n).length=16)(hk:∀x H',CH H' x s y rest (CG.fresh s m)->K ↑x.a H'):WC F.u.u ↑433 [↑y.a,.int m] H K:=by
 show WC.new Ue (dte tt) λa d ha hd ne=>Nk 22 rfl rfl ?_;apply @evS _ _ _ _ _ Y _;have h0:=(h.new hd (.aa [])).new (a:=a) ((if_neg ne).trans ha) (.inst 433 (some d));show bifD (λe=>absurd hm.1 (gA.mpr e)) λb=>?_;have S:=Ay.toStF;show SetP.at h0 0 1 rfl rfl S (A8 4) (nle tt:0<=900) λh1=>?_;apply @evS _ _ _ _ _ _ Y;show SetP.at h1 0 1 rfl rfl S (A8 5) (nle tt:1<=900) λh2=>?_;apply @evS _ _ _ _ _ _ Y;show Aa.at h2 2 3 rfl rfl Aj (A8 13) rfl ?_;rw[so.size];show SetP.at h2 0 1 rfl rfl S (A8 6) (nle tt:2<=900) λh3=>?_;apply @evS _ _ _ _ _ _ Y;show{(nle tt:0<=2^20),.own λr hr=>?_};show SetP.at (h3.new hr _) 1 2 rfl rfl S (A8 7) (nle tt:3<=900) λh4=>?_;apply @evS _ _ _ _ _ _ Y;show .own (.ae []) (.inl rfl) λk hk0=>?_;show SetP.at (h4.new hk0 _) 2 3 rfl rfl S (A8 8) (nle tt:4<=900) λh5=>?_;show SetP.at h5 2 3 rfl rfl S (A8 9) (nle tt:5<=900) λh6=>?_;show SetP.at h6 2 3 rfl rfl S (A8 10) (nle tt:6<=900) λh7=>?_;show SetP.at h7 2 3 rfl rfl S (A8 11) (nle tt:7<=900) λh8=>{rfl,hk ⟨a,d,r,k⟩ _ {{most:=m,hits:=0,reads:=0,writes:=0,au:=[],row:=[],by_:=[]},h8.perm ?_,?_}}
 .show((fG (l₁:=[_,_]) (l₂:=[_,_])).trans (.append_left _ (.swap ..))).append_right (s.objs y++rest)
 .show{{.nil,.nil,.nil,{(cO (cF ‹_›)),hm.2},λb h=>(nomatch h)},rfl,λb h=>(nomatch h),λb b=>⟨rfl,rfl⟩,λb b b=>rfl,λb h=>(nomatch h),hl,λb=>{bM _,bM _}}
end
section
variable{F:Fx}{H:AH}{K:V->AH->Prop}{rest:List (aK×AObj)}{s:DS}{x:DA}
def picks(u:List (Int×Oct))(ns:List Int)(i:Nat):List (Int×Oct):=(cG i).filterMap λ(j:Nat)=>if (j:Int)∈ns then u[j]? else none
theorem Mj{u:List (Int×Oct)}{ns:List Int}{i:Nat}:(picks u ns i).length<=i:=by
 have:=iD (λ(j:Nat)=>if (j:Int)∈ns then u[j]? else none) (cG i);rwa [dR]at this
theorem Jf{ns:List Int}(e:u[i]?=some p):picks u ns (i+1)=picks u ns i++if (i:Int)∈ns then [p] else []:=by
 unfold picks;simp only[dF,fN];congr 1;by_cases h:(i:Int)∈ns
 .rw[if_pos h,iE (b:=p) (by rw[if_pos h];show e)];rfl
 .rw[if_neg h,gi (by rw[if_neg h])];rfl
def DS.aft(s:DS)(ns:List Int):DS:={DS.new s.blocks with kept:=lay s.kept (picks s.ar ns s.ar.length),ah:=lay s.kept (picks s.ar ns s.ar.length)}
noncomputable abbrev mid (s:DS) (r:List (Int×Oct)):DS:={DS.new s.blocks with kept:=lay s.kept r}
noncomputable abbrev AfJ (rest:List (aK×AObj)) (s:DS) (x y:DA) (m0:List (Option V)) (nm:List (bY×aY)) (ns:List Int) (sq:Sq) (i:Nat) (m:Loc) (H':AH):Prop:=∃u:Option V,(m=lc nm (m0++[u]))/\(sq=.vals none (ns.map .int))/\(HL H' ((mid s []).objs y++(s.objs x++rest)))
inductive AgJ(rest:List (aK×AObj))(s:DS)(x y:DA)(m0:List (Option V))(nm:List (bY×aY))(ns:List Int)(sq:Sq)(i:Nat)(m:Loc)(H':AH):Prop
 |mk(u v w:Option V)(hm:m=lc nm (m0++[u,v,w]))(e:sq=.enum (some x.u) (unV s.ar))(hi:i<=s.ar.length)(h:HL H' ((mid s (picks s.ar ns i)).objs y++(s.objs x++rest)))
theorem Bt{ns:List Int}{i:Nat}{v:V}(e:(ns.map .int)[i]?=some v):∃n,ns[i]?=some n/\v=.int n:=by
 rw[bK,bF]at e;apply Y;obtain⟨p,e1,e2⟩:=e;show{p,e1,e2.symm}
theorem S6{ns:List Int}:V.int i∈ns.map .int↔i∈ns:=
 {λh=>by obtain⟨j,hj,e⟩:=aE.mp h;injection e with e;subst e;show hj,λh=>bZ h}
theorem Uq{p:Int×Oct}:lay m (r++[p])=lput (lay m r) p.1 p.2:=by
 unfold lay;rw[fP];rfl
theorem Oj{ns:List Int}(h:HL H (s.objs x++rest))(so:s.Ok)(hn:∀n∈ns,0<=n/\n<s.ar.length)(hl:ns.length<=10^5)(hk:∀y H',HL H' ((s.aft ns).objs y++(s.objs x++rest))->K ↑y.a H'):WC F.u.u.u ↑514 [↑x.a,.list (ns.map .int)] H K:=by
 have ul:=so.ar;have kl:=so.kept;have zl:(unV s.ar).length=s.ar.length:=by unfold unV;rw[aA]
 have laylen:∀{i},i<=s.ar.length->(Ax (lay s.kept (picks s.ar ns i))).length<=2^20:=λ{i}hi=>by
  unfold Ax;rw[aA];have:=Rx (m:=s.kept) (r:=picks s.ar ns i);have:=Mj (u:=s.ar) (ns:=ns) (i:=i);show lin 0x480aa3f41d4e089074699088148c49d045 414524679 tt ul kl hi ‹_› this
 show Aw 44 rfl rfl ?_;apply @evS _ _ _ _ _ Y _;show WS1.swp (is:=[2,3]) (ex:=.tup [.call ↑529 [.attr 'A' "blocks",.attr 'A' "size"],.call (.type "list") ['B']]) rfl rfl ?_;apply @ev _ _ _ _ _ _ Y;show Aa.at h 0 1 rfl rfl Aj (A8 12) rfl ?_;apply @evL Y _ _ _;show(let K0:=_;let K3:=_;(?_:@evL K0 _ _ K3));show Aa.at h 0 1 rfl rfl Aj (A8 13) rfl ?_;rw[so.size];show Oh (F:=F.bd) h so.blocks.1 λy H1 h1=>?_;show WC.listL (o:=none) (xs:=ns.map .int) ⟨rfl,rfl⟩ (by rw[aA];show aC ‹_› (nle rfl)) {(nle tt:2<=2^20),rfl,_,rfl,?_};apply @evS _ _ _ _ _ Y _;show Aa.at h1 5 6 rfl rfl Aj (A8 14) rfl ?_;show WC.f7 (.own (h1.get 7 rfl)) (by unfold Ax;rw[aA];show aC ‹_› (nle rfl)) λk hk0=>?_;apply @ev _ _ _ _ _ Y _;show SetP.at (h1.new hk0 _) 1 2 rfl rfl Aj.toStF (A8 14) (by decide:10<=900) λh2=>?_;apply @evS _ _ _ _ _ _ Y;have h3:HL _ ((mid s []).objs {y with k:=k}++(s.objs x++rest)):=(HL.dc (l1:=[_,_,_]) h2).perm (perm_middle (l₁:=[_,_])).symm;have i2:∀v∈ns.map V.int,∃j,v=.int j:=λv hv=>by obtain⟨j,c,e⟩:=aE.mp hv;show{j,e.symm}
 show WS1.for rfl (AfJ rest s x {y with k:=k} [some ↑x.a,some (.list (ns.map .int)),some ↑y.a,some (.list (ns.map .int))] (A9 (cst 19 9)).names ns) (λc c=>rfl) ?_ ?_ ?_ ?_
 .show .list (exE (ex:=.loc 3) Al rfl {none,ns.map .int,⟨rfl,rfl⟩,.vals,⟨none,rfl,rfl,h3⟩})
 .rintro sq i m' H' ⟨u,rfl,rfl,h3⟩;show trivial
 .rintro sq i m' H' v ⟨u,rfl,rfl,h3⟩ e;show(let K1:=_;let K5:=_;(?_:@WG _ K1 _ _ _ K5));obtain⟨n,e1,e9⟩:=Bt e;rw[e9];have hn:=hn n (aX e1);show WG.name (k:=.local) (Bc (i:=4) ⋯) (.inl rfl) (λc c h=>nomatch h) ?_;show(exS (st:=.ite (.not (.chain .LtE .Lt 'a' 'E' (.call (.builtin "len") [.attr 'A' "unflushed"]))) (.rs (.call ↑52 [.con (.str "no such write")])) .done .done) (sl:=[some ↑x.a,some (.list (ns.map .int)),some ↑y.a,some (.list (ns.map .int)),some (.int n)]) (KN:=λsl' H2=>AfJ rest s x {y with k:=k} [some ↑x.a,some (.list (ns.map .int)),some ↑y.a,some (.list (ns.map .int))] (A9 (cst 19 9)).names ns (.vals none (ns.map .int)) (i+1) (lc (A9 (cst 19 9)).names sl') H2) rfl rfl rfl ?_).mono λm' H3⟨sl',e,k⟩=>e▸k;show(let K4:=_;let K5:=_;(?_:@evS _ _ _ _ K4 K5 _));show bifD (λc=>?_) λe=>absurd hn.1 e;apply @ev _ _ _ _ _ _ Y;show Aa.at h3 5 6 rfl rfl Aj (A8 16) rfl ?_;show WC.bg {rfl,h3.get 9 rfl} (by rw[zl];show aC ‹_› (nle rfl)) ?_;rw[zl];change bif !decide (n<s.ar.length) then _ else _;rw[decide_eq_true hn.2];show⟨_,rfl,rfl,h3⟩
 rintro sq i m' H' ⟨u,rfl,rfl,h3⟩ c;show{_,rfl,?_};show WS1.for rfl (AgJ rest s x {y with k:=k} [some ↑x.a,some (.list (ns.map .int)),some ↑y.a,some (.list (ns.map .int))] (A9 (cst 19 9)).names ns) (λc c=>rfl) ?_ ?_ ?_ ?_
 .show WI.be Cs (.cons (λc c=>rfl) .nil) (Ah (i:=12) rfl) (.cons (λc c=>rfl) (exE (ex:=.attr 'A' "unflushed") Al rfl (Aa.at h3 5 6 rfl rfl Aj (A8 16) rfl (.nil (WIc.enum {rfl,h3.get 9 rfl} {.enum,{u,none,none,rfl,rfl,bV _,h3}})))))
 .rintro sq i m' H' ⟨u,v,w,rfl,rfl,hi,h⟩;show h.get 9 rfl
 .rintro sq i m' H' v ⟨u,v,w,rfl,rfl,hi,h⟩ e;apply @WG _ _ _ _ _ Y;obtain⟨w',e1,rfl⟩:=bF.mp e;apply @WG _ Y _ _ _ _;obtain⟨⟨n,b⟩,e2,e9⟩:=Vt e1;rw[e9];have hi':=(aI.mp e2).1;show WG.tup (.cons (λc c=>rfl) (.cons (λc c=>rfl) .nil)) rfl (.cons (λc c=>rfl) (.name (k:=.local) (Bc (i:=4) ⋯) (.inl rfl) (λc c h=>nomatch h) (.cons (λc c=>rfl) (WG.nms (is:=[5,6]) rfl rfl rfl rfl (.nil ?_)))));show(exS (st:=.ite (.cmp .In 'E' 'D') (.bq (.attr 'C' "kept") 'F' 'G' .done) .done .done) (sl:=[some ↑x.a,some (.list (ns.map .int)),some ↑y.a,some (.list (ns.map .int)),some (.int i),some (.int n),some (.bytes b)]) (KN:=λsl' H2=>AgJ rest s x {y with k:=k} [some ↑x.a,some (.list (ns.map .int)),some ↑y.a,some (.list (ns.map .int))] (A9 (cst 19 9)).names ns (.enum (some x.u) (unV s.ar)) (i+1) (lc (A9 (cst 19 9)).names sl') H2) rfl rfl rfl ?_).mono λm' H3⟨sl',e,k⟩=>e▸k;apply @evS _ _ _ _ Y _ _;show W2.inL (o:=none) (xs:=ns.map .int) ⟨rfl,rfl⟩ i2 λt ht=>?_;rw[S6]at ht;have ps:=Jf (ns:=ns) e2;show bifB (λe=>?_) λe=>{_,_,_,rfl,rfl,hi',?_}
  .rw[if_pos (ht.mp e)]at ps;show Aa.at h 0 1 rfl rfl Aj (A8 14) rfl ?_;show U3.ae (h.get 2 rfl) (laylen hi) {_,_,_,rfl,rfl,hi',?_};rw[Ek,ps,<- Uq (p:=(n,b))];show h.set 2 (.ae (Ax (lay s.kept (picks s.ar ns i++[(n,b)])))) rfl
  .rw[ps,if_neg λh=>bJ (e.symm.trans (ht.mpr h)),bG];show h
 .rintro sq i m' H' ⟨u,v,w,rfl,rfl,hi,h⟩ e;have hl:i=s.ar.length:=by
   have:=aO.mp (ik.mp e);show lin 0x1621a4414846b1043 379847017 tt zl hi this
  subst hl;show{_,rfl,?_};apply @evS _ _ _ _ _ Y _;show Aa.at h 0 1 rfl rfl Aj (A8 14) rfl ?_;show WC.f7 (.own (h.get 2 rfl)) (laylen (bC _)) λl hl0=>?_;show SetP.at (h.new hl0 _) 1 2 rfl rfl Aj.toStF (A8 15) (by decide:10<=900) λh4=>?_;show hk {y with k:=k,l:=l} _ ?_;show(HL.dc (l1:=[_,_,_,_]) h4).perm (perm_middle (l₁:=[_,_,_])).symm
end
section
noncomputable abbrev Row:=Option (Int×Oct)
def DS.stp(s:DS):Row->DS
 |some p=>s.wr p.1 p.2
 |none=>s.fl
def DS.out(s:DS):Row->Bool
 |some _=>gone s.last s.writes
 |none=>gone s.ax s.ag
def exec(s:DS):List Row->Bool×DS
 |[]=>(false,s)
 |r::rs=>bif s.out r then (true,{s with dead:=true}) else exec (s.stp r) rs
def CG.b5(g:CG)(rs:List Row):CG:=rs.foldl (λg r=>match r with
 |some p=>g.put p.1 p.2
 |none=>g) g
theorem Bs:exec s (r::rs)=bif s.out r then (true,{s with dead:=true}) else exec (s.stp r) rs:=rfl
theorem Eu:exec s (a++b)=bif (exec s a).1 then exec s a else exec (exec s a).2 b:=by
 induction a generalizing s with
 |nil=>rfl
 |cons r rs ih=>
  simp only[ku,Bs,Bs]
  cases s.out r with
  |true=>rfl
  |false=>show ih
structure Keys(m:List (Int×Oct))(b:Int):Prop where
 nd:(m.map (·.1)).Nodup
 k:∀p∈m,(0<=p.1/\p.1<b)/\p.2.length=16
theorem Kl{n:Int}{o:Oct}(h:p∈lput m n o):p=(n,o)\/p∈m:=by
 induction m with
 |nil=>show .inl (aP.mp h)
 |cons q r ih=>
  obtain⟨j,v⟩:=q;by_cases e:j=n
  .rw[Fi e]at h;rcases aS.mp h with e8|h
   .subst e8;show .inl (by rw[e])
   .show .inr (.tail _ h)
  .rw[Fj e]at h;rcases aS.mp h with e8|h
   .subst e8;show .inr (.head _)
   .show(ih h).imp id λh=>.tail _ h
theorem S7{n:Int}{o:Oct}(h:(m.map (·.1)).Nodup):((lput m n o).map (·.1)).Nodup:=by
 induction m with
 |nil=>show bX.mpr {λh=>(absurd h aD),.nil}
 |cons q r ih=>
  obtain⟨j,v⟩:=q;obtain⟨h1,h2⟩:=bX.mp h;rcases bB (j=n) with e|e
  .rw[Fi e];show h
  .rw[Fj e];show bX.mpr {λhm=>?_,ih h2};obtain⟨p,hp,ep⟩:=aE.mp hm;rcases Kl hp with rfl|hp
   .show e ep.symm
   .show h1 (aE.mpr ⟨p,hp,ep⟩)
theorem Keys.put(h:Keys m b)(hn:0<=n/\n<b)(ho:o.length=16):Keys (lput m n o) b:={S7 h.nd,λp hp=>(Kl hp).elim (λe=>by clear hp;subst e;show⟨hn,ho⟩) (h.k p)}
theorem Keys.len(h:Keys m b)(hb:b<=100):m.length<=100:=by
 have:=Mh (N:=m.map (·.1)) (U:=(cG 100).map λ(n:Nat)=>(n:Int)) h.nd λn hn=>by
  obtain⟨p,hp,e9⟩:=aE.mp hn;simp only[<- e9];have:=(h.k p hp).1;show aE.mpr {p.1.toNat,fW.mpr (lin 0x33067b4c5616ce2d02ac051 403751 tt hb this (bD this.1)),by show lin 31172969472073 9699623 tt (bD this.1)}
 rwa [aA,aA,dR]at this
theorem Keys.lay(hr:∀p∈r,(0<=p.1/\p.1<b)/\p.2.length=16):∀{m:List (Int×Oct)},Keys m b->Keys (lay m r) b:=by
 induction r with
 |nil=>show λh=>h
 |cons p r ih=>show λh=>ih (λp hp=>hr p (.tail _ hp)) (h.put (hr p (.head _)).1 (hr p (.head _)).2)
structure DI(s:DS)(b:Nat):Prop where
 blocks:2<=s.blocks/\s.blocks<=100
 size:s.size=16
 w:0<=s.writes/\s.writes+b<=10^6
 f:0<=s.ag/\s.ag+b<=10^6
 u:s.ar.length+b<=10^5
 kk:Keys s.kept s.blocks
 ll:Keys s.ah s.blocks
 uu:∀p∈s.ar,(0<=p.1/\p.1<s.blocks)/\p.2.length=16
 on:s.dead=false
variable{s:DS}{b:Nat}
theorem DI.ok(h:DI s b):s.Ok:={⟨by have:=h.blocks;show cO (cF ‹_›),h.blocks.2⟩,h.size,{h.w.1,by have:=h.w;show lin 0x3d80328fd95025616cc01947e949 9473 ⋯ this},{h.f.1,by have:=h.f;show lin 0x3d80328fd95025616cc01947e949 9473 ⋯ this},h.kk.len h.blocks.2,h.ll.len h.blocks.2,by have:=h.u;show lin 0x1202a8fd9082901547e842 8418 tt this}
theorem DI.less{b':Nat}(h:DI s b)(l:b'<=b):DI s b':={h.blocks,h.size,{h.w.1,by have:=h.w;show lin 0x9105ec01947eca822b0b6600ca3f654094a 10535 ⋯ l this},{h.f.1,by have:=h.f;show lin 0x9105ec01947eca822b0b6600ca3f654094a 10535 ⋯ l this},by have:=h.u;show lin 0x2462480aa3f6430a40551fb21043 9479 tt l this,h.kk,h.ll,h.uu,h.on}
def En(blocks:Int):Row->Prop
 |some p=>(0<=p.1/\p.1<blocks)/\p.2.length=16
 |none=>True
theorem DI.stp(h:DI s (b+1))(hr:En s.blocks r):DI (s.stp r) b/\(s.stp r).blocks=s.blocks:=by
 obtain⟨h1,h2,⟨h3,h3'⟩,⟨h4,h4'⟩,h5,h6,h7,h8,h9⟩:=h
 induction r using Option.casesOn with
 |some p=>
  show{{h1,h2,{by change 0<=s.writes+1;show lin 836874087816 263 ⋯ h3,by change s.writes+1+b<=_;show lin 0x600ca3f654a84ac01947eca81a949 263 ⋯ h3'},{h4,by change s.ag+b<=_;show lin 0x300651fb2a5425600ca3f6540949 263 ⋯ h4'},?_,h6,h7.put hr.1 hr.2,λq hq=>?_,h9},rfl}
  .change(s.ar++[(p.1,p.2)]).length+b<=_;rw[aV,List.length_singleton];show lin 0x1202a8fd95441480aa3f642a842 263 tt h5
  .apply Y;rcases aZ.mp hq with hq|hq
   .show h8 q hq
   .cases aP.mp hq;show hr
 |none=>show{{h1,h2,{h3,by change s.writes+b<=_;show lin 0x300651fb2a5425600ca3f6540949 263 ⋯ h3'},{by change 0<=s.ag+1;show lin 836874087816 263 ⋯ h4,by change s.ag+1+b<=_;show lin 0x600ca3f654a84ac01947eca81a949 263 ⋯ h4'},by change 0+b<=_;show lin 0x901547ecaa11240551fb20d82 8418 tt h5,h6.lay h8,h7,λa h=>(absurd h aD),h9},rfl}
theorem DI.run{rs:List Row}:∀{s:DS},DI s (b+rs.length)->(∀r∈rs,En s.blocks r)->(exec s rs).1=false->DI (exec s rs).2 b/\(exec s rs).2.blocks=s.blocks:=by
 induction rs with
 |nil=>show λh a a=>⟨h,rfl⟩
 |cons r rs ih=>
  intro s h hr e;simp only[Bs]at e ⊢;rcases eo:s.out r<;>rw[eo]at e
  .obtain⟨h1,h2⟩:=DI.stp (b:=b+rs.length) h (hr r (.head _));have:=ih h1 (λq hq=>(h2▸hr q (.tail _ hq))) e;show{this.1,this.2.trans h2}
  .show aR e
theorem Keys.at{b n:Int}(h:Keys m b):((lget m n).getD Bo).length=16:=by
 induction m with
 |nil=>rfl
 |cons q r ih=>
  obtain⟨j,v⟩:=q;rcases bB (j=n) with e|e
  .rw[E1 e];show(h.k _ (.head _)).2
  .rw[De e];show ih {(bX.mp h.nd).2,λp hp=>h.k p (.tail _ hp)}
theorem DI.len(h:DI s b)(n:Int):(s.at_ n).length=16:=h.ll.at
variable{F:Fx}{H H':AH}{K:V->AH->Prop}{rest rest' l1 l2:List (aK×AObj)}{x:CA}{y:DA}{g:CG}{n:Int}{a d c:aK}{o:AObj}{mm:List (bY×V)}{v:V}{nm:bY}
theorem HL.setR(h:HL H (l1++l))(i:Nat)(o':AObj)(e:l[i]?=some (a,o)):HL (H.set a o') (l1++l.set i (a,o')):=by
 obtain⟨h1,h2⟩:=Ma (o':=o') e;rw[h2,<- aH];rw[h1,<- aH]at h;show h.put o'
theorem CH.tail(C:CH H x s y rest g):HL H rest:=let ⟨_,h,_⟩:=C;h.drop.drop.drop
theorem Cv{c:CS}:all c x s y rest=(c.objs x y.a++(Ey c.au++s.objs y))++rest:=by
 unfold all;simp only[aH]
theorem CH.f9(C:CH H x s y rest g)(i:Nat)(o':AObj)(e:rest[i]?=some (a,o)):CH (H.set a o') x s y (rest.set i (a,o')) g:=by
 apply Y;obtain⟨c,h,sh⟩:=C;simp only[Cv]at h;show{c,Cv▸h.setR i o' e,sh}
theorem CH.cj(C:CH H x s y rest g)(p:rest.Perm rest'):CH H x s y rest' g:=by
 obtain⟨c,h,sh⟩:=C;simp only[Cv]at h;show{c,Cv▸h.perm (p.append_left _),sh}
theorem CH.fe(C:CH H x s y rest g)(e:H a=none)(o:AObj):CH (H.set a o) x s y ((a,o)::rest) g:=by
 apply Y;obtain⟨c,h,sh⟩:=C;simp only[Cv]at h;show{c,Cv▸(h.new e o).perm perm_middle.symm,sh}
theorem CH.rlose(C:CH H x s y (l1++q::l2) g):CH H x s y (l1++l2) g:=by
 obtain⟨c,h,sh⟩:=C;rw[Cv,<- aH]at h;show{c,by rw[Cv,<- aH];show h.dc,sh}
theorem CH.ext(C:CH H x s y rest g)(e:Ext H H'):CH H' x s y rest g:=let ⟨c,h,sh⟩:=C;{c,h.ext e,sh}
structure JS where
 start:Int
 pl:Int
 each:Int
 nums:List Int
 calls:Int
 ay:Int
structure JA where
 a:aK
 d:aK
 q:aK
 t:aK
def jn(l:List Int):List (Int×V):=l.zipIdx.map λp=>(p.1,.int p.2)
def JS.names(j:JS)(z:JA)(ca:aK):List (bY×V):=[("cache",.ref ca),("start",.int j.start),("size",.int (j.pl+1)),("places",.int j.pl),("most",.int j.pl),("each",.int j.each),("numbers",.ref z.q),("noted",.ref z.t),("calls",.int j.calls),("commits",.int j.ay)]
def JS.objs(j:JS)(z:JA)(ca:aK):List (aK×AObj):=[(z.a,.inst 218 (some z.d)),(z.d,.aa (j.names z ca)),(z.q,.list (j.nums.map .int)),(z.t,.ae (jn j.nums))]
variable{j:JS}{z:JA}{ca:aK}{l:List (aK×AObj)}
theorem Mk(h:HL H (j.objs z ca++l))(hn:¬ (j.start<=n/\n<j.start+(j.pl+1)))(hk:K (.bool false) H):WC F.u ↑138 [↑z.a,.int n] H K:=by
 apply @WC _ _ Y _ _;show Aw 6 rfl rfl ?_;show Aa.at h 0 1 rfl rfl A6 (A8 23) rfl (bifD (λe=>?_) λe=>?_)
 .apply @ev _ _ _ _ _ _ Y;show Aa.at h 0 1 rfl rfl A6 (A8 23) rfl (Aa.at h 0 1 rfl rfl A6 (A8 24) rfl ?_);change K (.bool (decide (n<j.start+(j.pl+1)))) H;rw[decide_eq_false λh2=>hn ⟨e,h2⟩];show hk
 .show hk
theorem No(h:HL H (j.objs z ca++l))(hl:j.nums.length<=100)(hc:0<=j.calls/\j.calls<=1000)(he:0<=j.each/\j.each<=3)(hk:K (.bool (decide ((j.nums.length:Int)+(j.calls+1)*j.each<=j.pl))) H):WC F.u ↑145 [↑z.a] H K:=by
 show Aw 7 rfl rfl ?_;show Aa.at h 0 1 rfl rfl A6 (A8 28) rfl (WC.bg {rfl,h.get 2 rfl} (by rw[aA];show aC ‹_› (nle rfl)) ?_);show Aa.at h 0 1 rfl rfl A6 (A8 30) rfl (Aa.at h 0 1 rfl rfl A6 (A8 27) rfl (W2.mul (.of_left ?_) ?_))
 .show aC (Nl (n:=60) (lin 0x3d9f470ac2d9d52d02a0f047e849 11560 tt hc (jm (lin 0x3d9f470ac2d9952d88 295 tt hc)))) (nle tt)
 show Aa.at h 0 1 rfl rfl A6 (A8 26) rfl ?_;rw[aA];show hk
theorem S8(h:HL H (j.objs z ca++l))(hl:j.nums.length<=100)(hk:K (.int (j.pl-j.nums.length)) H):WC F.u ↑152 [↑z.a] H K:=by
 show Aw 8 rfl rfl ?_;show Aa.at h 0 1 rfl rfl A6 (A8 26) rfl (Aa.at h 0 1 rfl rfl A6 (A8 28) rfl (WC.bg {rfl,h.get 2 rfl} (by rw[aA];show aC ‹_› (nle rfl)) ?_));rw[aA];show hk
theorem Ur(C:CH H x s y (j.objs z x.a++l) g)(hl:j.nums.length<=100)(hc:0<=j.calls/\j.calls<=1000)(he:0<=j.each/\j.each<=3)(hr:¬ (j.nums.length:Int)+(j.calls+1)*j.each<=j.pl->∀H',CH H' x s y (j.objs z x.a++l) g->F.KX 76 H')
  (hk:(j.nums.length:Int)+(j.calls+1)*j.each<=j.pl->∀H',CH H' x s y (({j with calls:=j.calls+1}:JS).objs z x.a++l) g->K .none H'):WC F.u.u.u ↑159 [↑z.a] H K:=by
 show Aw 9 rfl rfl ?_;show Av.at C.tail 0 1 rfl rfl A6 (Ao 26 rfl) rfl (No (F:=F.bd.u) C.tail hl hc he ?_);by_cases e:(j.nums.length:Int)+(j.calls+1)*j.each<=j.pl
 .rw[decide_eq_true e];apply @evB Y _ _;show AugP.add C.tail 0 1 rfl rfl A6 (A8 30) rfl (nle tt:10<=900) (λb k=>k) λb=>hk e _ (C.f9 1 _ rfl)
 .rw[decide_eq_false e];show He (F:=F.bd) Mc λH' ex=>hr e H' (C.ext ex)
theorem jn_get:(lget (jn ns) n).isSome=decide (n∈ns):=by
 unfold jn;generalize 0=k
 induction ns generalizing k with
 |nil=>rfl
 |cons m r ih=>
  simp only[oh,fA];by_cases e:m=n
  .rw[E1 e,decide_eq_true (by rw[e];show .head _)];rfl
  .rw[De e,ih,decide_eq_decide];show{.tail _,λh=>(aS.mp h).resolve_left (fQ e)}
theorem X5(h:n∉ns):lput (jn ns) n (.int ns.length)=jn (ns++[n]):=by
 rw[Hg λhm=>?_]
 .unfold jn;simp only[List.zipIdx_append,aJ];simp
 .obtain⟨p,hp,rfl⟩:=aE.mp hm;clear hm;obtain⟨q,hq,rfl⟩:=aE.mp hp;show h (List.fst_mem_of_mem_zipIdx hq)
theorem jn_len:(jn ns).length=ns.length:=by unfold jn;rw[aA,List.length_zipIdx]
theorem S9(C:CH H x s y (j.objs z x.a++l) g)(hl:j.nums.length<=100)(hh:g.h n≠0)(hn:¬ (j.start<=n/\n<j.start+(j.pl+1)))(h0:j.calls=0->∀H',CH H' x s y (j.objs z x.a++l) g->F.KX 52 H')(h1:j.calls≠0->n∈j.nums->K .none H)
  (h2:j.calls≠0->n∉j.nums->j.pl<=j.nums.length->∀H',CH H' x s y (j.objs z x.a++l) g->F.KX 76 H') (h3:j.calls≠0->n∉j.nums->¬ j.pl<=j.nums.length->∀H',CH H' x s y (({j with nums:=j.nums++[n]}:JS).objs z x.a++l) (g.pin n (g.p n+1))->K .none H'):WC F.u.u.u ↑166 [↑z.a,.ref (g.B n)] H K:=by
 apply @WC _ _ Y _ _;have h:=C.tail;show Aw 10 rfl rfl ?_;show Aa.at h 0 1 rfl rfl A6 (A8 30) rfl (bifB (λe=>?_) λe=>?_)
 .show He (F:=F.bd) F6 λH' ex=>h0 (beq_iff_eq.mp e) H' (C.ext ex)
 have e:j.calls≠0:=λy=>bJ (e.symm.trans (beq_iff_eq.mpr y));show Av.at h 0 1 rfl rfl A6 (Ao 25 rfl) rfl (C.bnum (λe=>absurd e hh) (Mk (F:=F.bd.u) h hn ?_));show C.bnum (λe=>absurd e hh) (Aa.at h 0 1 rfl rfl A6 (A8 29) rfl (W2.inI (.own (h.get 3 rfl)) ?_));simp only[jn_get];show bifD (λhm=>?_) λhm=>?_
 .obtain⟨c,b,b⟩:=id C;show Aa.at h 0 1 rfl rfl A6 (A8 22) rfl (C.af (Ao 4 rfl) (λb=>rfl) (J3 (F:=F.bd.u) C hh (h1 e hm)))
 .show Aa.at h 0 1 rfl rfl A6 (A8 28) rfl (WC.bg {rfl,h.get 2 rfl} (by rw[aA];lia) ?_);show Aa.at h 0 1 rfl rfl A6 (A8 26) rfl (bifD (λe2=>?_) λe2=>?_)
  .simp only[aA]at e2;show He (F:=F.bd) Mc λH' ex=>h2 e hm e2 H' (C.ext ex)
  .rw[aA]at e2;show Aa.at h 0 1 rfl rfl A6 (A8 22) rfl (C.af (Ao 8 rfl) (λb=>rfl) (Un (F:=F.bd) C hh λH1 C1=>?_));have h:=C1.tail;show Aa.at h 0 1 rfl rfl A6 (A8 28) rfl (WC.bg {rfl,h.get 2 rfl} (by rw[aA];lia) ?_);show Aa.at h 0 1 rfl rfl A6 (A8 29) rfl (C1.bnum (g:=g.pin n (g.p n+1)) (λe=>absurd e hh) (U3.ae (h.get 3 rfl) (by rw[jn_len];lia) ?_));rw[aA,X5 hm];have C2:=C1.f9 3 (.ae (jn (j.nums++[n]))) rfl;have h:=C2.tail;show Aa.at h 0 1 rfl rfl A6 (A8 28) rfl ?_;show .blt "list.append" (Gm.list cI rfl {rfl,h.get 2 rfl}) ?_;show C2.bnum (g:=g.pin n (g.p n+1)) (λe=>absurd e hh) (WC.append (h.get 2 rfl) (by rw[aA];lia) ?_);have C3:=C2.f9 2 (.list (j.nums.map .int++[.int n])) rfl;have e3:j.nums.map V.int++[.int n]=(j.nums++[n]).map .int:=by simp only[aJ];rfl
   rw[e3]at C3 ⊢;show h3 e hm e2 _ C3
end
section
variable{F:Fx}{H:AH}{K:V->AH->Prop}{v:V}{o:Option aK}
def word(n:Int):Oct:=octs [n,0,0,0]
def hw(ns:List Int):List Int:=((ns.length:Int)::ns)++bO (3-ns.length) 0
def Ca(ns:List Int):Oct:=(hw ns).flatMap word
noncomputable abbrev Ha (ns:List Int):Prop:=ns.length<=3/\∀n∈ns,0<=n/\n<256
theorem Hh{l:List Int}:(l.flatMap word).length=4*l.length:=by
 induction l with
 |nil=>rfl
 |cons n r ih=>simp only[gv,aV,ih];change 4+4*r.length=_;simp only[cK];show lin 0x2c88ed432223a126c1 7175 tt
theorem X6:∀n:Fin 256,∀k:Fin 4,nW (Int.fdiv (n:Nat) (2^((8:Int)*(k:Nat)).toNat)) 255=if (k:Nat)=0 then ((n:Nat):Int) else 0:=by decide +kernel
theorem Km:∀n:Fin 256,la (0*2^(8:Int).toNat) ((n.val.toUInt8).toNat:Nat)=((n:Nat):Int):=by decide +kernel
def wv(v:Int)(i:Nat):List Int:=(cG i).map λk=>if k=0 then v else 0
inductive WdJ(H:AH)(v:Int)(sq:Sq)(i:Nat)(xs:List V)(H':AH):Prop
 |mk(e:sq=.rng 0 1 4)(hx:xs=(wv v i).map .int)(hi:i<=4)(p:H'=H)
inductive PhJ(H:AH)(ns:List Int)(nm:List (bY×aY))(v:V)(f:aK)(sq:Sq)(i:Nat)(m:Loc)(H':AH):Prop
 |mk(u:Option V)(hm:m=lc nm [some v,some (.int 16),some ↑f,u])(e:sq=.vals none (((ns.length:Int)::ns).map .int))(hi:i<=ns.length+1)(x:Ext H H')(hf:H f=none)(hb:H' f=some (.c6 ((((ns.length:Int)::ns).take i).flatMap word)))
theorem Sa(as:AsL H v o (ns.map .int))(hs:Ha ns)(hk:∀H',Ext H H'->K (.bytes (Ca ns)) H'):WC F.u ↑102 [v,.int 16] H K:=by
 obtain⟨hl,hn⟩:=hs;have zl:(ns.map V.int).length=ns.length:=aA ..;show Aw 2 rfl rfl ?_;show WC.bg as (by rw[zl];lia) (W2.mul (.of_left '#') ?_);show bifD (λe=>?_) λb=>?_
 .rw[zl]at e;lia
 show WC.baN λf hf=>?_;have hs':∀n∈(ns.length:Int)::ns,0<=n/\n<256:=λn h=>by
  rcases aS.mp h with e8|h
  .subst e8;show lin 0x91ec2f6a01ca05940d81 8618241 tt hl
  .show hn n h
 have as':AsL (H.set f (.c6 [])) v o (ns.map .int):=by
  induction v using V.casesOn with
  |list=>show as
  |ref a=>show{as.1,(if_neg λ(y:a=f)=>by rw[<- y,as.2]at hf;rcases hf).trans as.2}
  |_=>show as.elim
 show WS1.for rfl (PhJ H ns (A9 (tst 11)).names v f) (λb b=>rfl) ?_ ?_ ?_ ?_
 .apply @WI _ _ _ _ Y;show .list (exE (ex:=.bin .Add (.list [(.call (.builtin "len") ['A'])]) (.call (.type "list") ['A'])) Al rfl ?_);apply @ev _ _ _ _ _ _ Y;show WC.bg as' (by rw[zl];lia) {(nle tt:1<=2^20),.data (WC.listL as' (by rw[zl];show lin 626732421185 263 tt hl) (W2.cat (o:=none) (o':=none) ⟨rfl,rfl⟩ ⟨rfl,rfl⟩ (by rw[zl];change 1+_<=_;show lin 641774000410049 263 tt hl) ?_))};rw[zl];show{none,_,⟨rfl,rfl⟩,.vals,{none,rfl,rfl,bV _,Ext.new (λb b e=>e) hf,hf,if_pos rfl}}
 .rintro sq i m' H' ⟨u,rfl,rfl,hi,x,hf,hb⟩;trivial
 .rintro sq i m' H' w ⟨u,rfl,rfl,hi,x,hf,hb⟩ e;show(let K1:=_;let K5:=_;(?_:@WG _ K1 _ _ _ K5));obtain⟨n,e1,rfl⟩:=Bt e;have hn':=hs' n (aX e1);have hi':=(aI.mp e1).1;show WG.name (k:=.cell) (Bc (i:=3) rfl) (.inr ⟨rfl,rfl⟩) (λb b h=>absurd h aD) ?_;show(exS (st:=.expr (.af 'C' "extend" [(.call (.type "bytes") [(.raw (B0 [1,1] (stE 0 (Ad [2,0,0] (A7 (tst 11))))))])]) .done) (sl:=[some v,some (.int 16),some ↑f,some (.int n)]) (KN:=λsl' H2=>PhJ H ns (A9 (tst 11)).names v f (.vals none (((ns.length:Int)::ns).map .int)) (i+1) (lc (A9 (tst 11)).names sl') H2) rfl rfl rfl ?_).mono λm' H3⟨sl',e,k⟩=>e▸k;apply @evS _ _ _ _ Y _ _;show .blt "bytearray.extend" (Gm.ba F5 rfl hb) ?_;apply @evL _ _ _ Y;show WE.co (WCo.nm (j:=1) (WdJ H' n) tt rfl rfl (λb b=>rfl) ?_ (λsq i xs H' j=>?_) (λsq i xs H' w j e=>?_) λsq i xs H' j e=>?_)
  .show WI.be Ia (.cons (λb b=>rfl) .nil) (Ah (i:=10) rfl) (.cons (λb b=>rfl) (exE (ex:=.con (.int 4)) Al rfl (.nil (WIc.d9 (dte tt) {.rng,rfl,rfl,bV _,rfl}))))
  .apply Y;obtain⟨rfl,rfl,hi,rfl⟩:=j;show{trivial,?_};unfold wv;rw[aA,aA,dR];show lin 628879904833 263 tt hi
  .obtain⟨rfl,rfl,hi,rfl⟩:=j;obtain⟨hi2,rfl⟩:=Dd e;show .nil (exE (ex:=(.bin .BitAnd (.bin .RShift 'C' (.bin .Mult 'i' 'B')) (.con (.int 255)))) Al rfl ?_);rw[fF,dH];apply @ev _ _ _ _ Y _ _;show W2.mul (.of_left (nle tt)) (W2.shr (lin 842412592513 8388577 tt) (W2.band {rfl,?_,hi2,rfl}));have:=X6 {n.toNat,by show lin 0x7b500e1585b38b40a900e049 11560 tt hn' (bD hn'.1)} ⟨_,hi2⟩
   dsimp only at this
   rw[bD hn'.1]at this;unfold wv;rw[dF,aJ,aJ,this];rfl
  .obtain⟨rfl,rfl,hi,rfl⟩:=j;have he:=Ct e;obtain rfl:_=4:=cA hi he;show WC.du (o:=none) (ns:=wv n 4) ⟨rfl,rfl⟩ (λq hq=>?_) (show 4<=2^20 by decide) ?_
   .have:wv n 4=[n,0,0,0]:=rfl;rw[this]at hq;rcases aS.mp hq with e8|hq
    .subst e8;show hn'
    .rw[gy (n:=3) |>.mp hq |>.2];decide
   show WC.g5 hb ?_ {_,rfl,rfl,hi',x.new hf,hf,?_}
   .rw[Hh,dT];change _+4<=_;rw[cK];show lin 0x247b126a20a75226c88e842 10484999 tt hl (dC _ _)
   .show(if_pos rfl).trans ?_;rw[cE,e1,fB];rfl
 .rintro sq i m' H' ⟨u,rfl,rfl,hi,x,hf,hb⟩ e;have hi2:i=ns.length+1:=by
   have:=aO.mp e;rw[aA,cK]at this;show lin 0x13510521a89751042 9699623 tt hi this
  subst hi2;rw[bT (by rw[cK];show bC _)]at hb;have wl:=Hh (l:=(ns.length:Int)::ns);rw[cK]at wl;show{_,rfl,WC.fj hb (lin 0x48f625911da8829d042 10780647 tt hl wl) (WC.lenA hb (lin 0x48f625911da882907847e842 10780647 tt hl wl) (WC.b9 ?_ ?_ (W2.catY ?_ ?_)))}
  .rw[wl];lia
  .rw[wl];lia
  .rw[wl,hZ];lia
  .have:(((ns.length:Int)::ns).flatMap word)++bO ((16:Int)-(((ns.length:Int)::ns).flatMap word).length).toNat 0=Ca ns:=by
    unfold Ca hw;rw[fB,wl];congr 1;have:((16:Int)-(4*(ns.length+1):Nat)).toNat=4*(3-ns.length):=(lU 16 _).trans ((qS 4 4 _).symm.trans (congrArg (4*·) (Nat.succ_sub_succ 3 _)));rw[this];generalize 3-ns.length=k
    induction k with
    |zero=>rfl
    |succ k ih=>rw[eH,gv,<- ih];rfl
   rw[this];show hk H' x
inductive Hw(ns:List Int)(a b c d:Int):Prop
 |mk(e:hw ns=[a,b,c,d])(r:∀x∈[a,b,c,d],0<=x/\x<256)
theorem len3{α:Type}{ns:List α}(h:ns.length<=3):ns=[]\/(∃a,ns=[a])\/(∃a b,ns=[a,b])\/∃a b c,ns=[a,b,c]:=by
 rcases ns with _|⟨a,_|⟨b,_|⟨c,_|⟨d,r⟩⟩⟩⟩
 .show .inl rfl
 .show .inr (.inl ⟨a,rfl⟩)
 .show .inr (.inr (.inl ⟨a,b,rfl⟩))
 .show .inr (.inr (.inr ⟨a,b,c,rfl⟩))
 .show absurd h (Nat.not_le.mpr (gg 4 _))
theorem X7(hs:Ha ns):∃a b c d,Hw ns a b c d:=by
 obtain⟨hl,hn⟩:=hs;rcases len3 hl with rfl|⟨a,rfl⟩|⟨a,b,rfl⟩|⟨a,b,c,rfl⟩
 .show{0,0,0,0,rfl,λx hx=>by rw[(gy (n:=4)).mp hx |>.2];decide}
 .show⟨1,a,0,0,rfl,λx hx=>by
   rcases aS.mp hx with rfl|hx
   .decide
   clear hl;rcases aS.mp hx with rfl|hx
   .show hn _ (.head _)
   .rw[(gy (n:=2)).mp hx |>.2];decide⟩
 .show⟨2,a,b,0,rfl,λx hx=>by
   rcases aS.mp hx with rfl|hx
   .decide
   rcases aS.mp hx with rfl|hx
   .show hn _ (.head _)
   clear hl;rcases aS.mp hx with rfl|hx
   .show hn _ (.tail _ (.head _))
   .rw[aP.mp hx];decide⟩
 .show⟨3,a,b,c,rfl,λx hx=>by
   rcases aS.mp hx with rfl|hx
   .decide
   .show hn _ hx⟩
theorem Us{i:Nat}(e:[a,b,c,d][i]?=some x):cutB ([a,b,c,d].flatMap word) (some (0+i*4)) (some (0+i*4+4))=word x:=by
 rcases lt4 (aI.mp e).1 with h|h|h|h<;>rw[h]at e ⊢<;>(injection e with e;subst e;rfl)
inductive InJ(H:AH)(x:Int)(m0:List (Option V))(nm:List (bY×aY))(sq:Sq)(i:Nat)(m:Loc)(H':AH):Prop
 |mk(u:Option V)(hm:m=lc nm (m0++[some (.int (if i<4 then 0 else x)),u]))(e:sq=.rev (word x))(hi:i<=4)(p:H'=H)
inductive NoJ(H:AH)(ws:List Int)(b:Oct)(nm:List (bY×aY))(f:aK)(sq:Sq)(i:Nat)(m:Loc)(H':AH):Prop
 |mk(u v w:Option V)(hm:m=lc nm [some (.bytes b),some ↑f,u,v,w])(e:sq=.rng 0 4 4)(hi:i<=4)(x:Ext H H')(hf:H f=none)(hb:H' f=some (.list ((ws.take i).map .int)))
theorem rev_at(e:(Sq.rev b).at i=some v):i<b.length/\v=.int (b.getD (b.length-1-i) 0).toNat:=by
 by_cases h:i<b.length
 .rw[show(Sq.rev b).at i=some _ from if_pos h]at e;injection e with e;subst e;show⟨h,rfl⟩
 .rw[show(Sq.rev b).at i=none from if_neg h]at e;show fn e
theorem X8(e:(Sq.rev b).at i=none):b.length<=i:=by
 by_cases h:i<b.length
 .rw[show(Sq.rev b).at i=some _ from if_pos h]at e;contradiction
 .show g8.mp h
theorem Ko(hr:∀x∈[a,b,c,d],0<=x/\x<256)(hk:∀f H',Ext H H'->H f=none->H' f=some (.list ([a,b,c,d].map .int))->K ↑f H'):WC F.u ↑109 [.bytes ([a,b,c,d].flatMap word)] H K:=by
 generalize hB:[a,b,c,d].flatMap word=B;have hL:B.length=16:=by rw[<- hB];rfl
 show Aw 3 rfl rfl {(nle tt:0<=2^20),.own λf hf=>?_};apply @evS _ _ _ _ _ Y _;show WS1.for rfl (NoJ H [a,b,c,d] B (A9 (tst 12)).names f) (λg g=>rfl) ?_ ?_ ?_ ?_
 .apply @WI _ _ _ _ Y;show WI.be Ia (.cons (λg g=>rfl) (.cons (λg g=>rfl) (.cons (λg g=>rfl) .nil))) (Ah (i:=5) rfl) (.cons (λg g=>rfl) (exE (ex:=.con (.int 0)) Al rfl (.cons (λg g=>rfl) (exE (ex:=.bin .Add (.bin .Sub (.call (.builtin "len") ['A']) 'e') 'b') Al rfl (WC.lenY (lin 0x5e42907847e841 295 rfl hL) ?_)))));simp only[hL];show .cons (λg g=>rfl) (exE (ex:=.con (.int 4)) Al rfl (.nil (WIc.range3 (dte tt) (dte tt) (dte tt) {.rng,{none,none,none,rfl,rfl,bV _,Ext.new (λg g e=>e) hf,hf,if_pos rfl}})))
 .rintro sq i m' H' ⟨u,v,w,rfl,rfl,hi,x,hf,hb⟩;show eE
 .rintro sq i m' H' t ⟨u,v,w,rfl,rfl,hi,x,hf,hb⟩ e;obtain⟨hi2,rfl⟩:=Dd e;obtain⟨n,e1⟩:∃n,[a,b,c,d][i]?=some n:={_,bE (hi2)};have hn:=hr n (aX e1);show WG.name (k:=.local) (Bc (i:=2) rfl) (.inl rfl) (λg g h=>absurd h aD) ?_;show(exS (st:=.set 3 'a' (.raw (Ad [1,0,1] (A7 (tst 12))) (.expr (.af 'B' "append" ['D']) .done))) (sl:=[some (.bytes B),some ↑f,some (.int (0+(i:Int)*4)),v,w]) (KN:=λsl' H2=>NoJ H [a,b,c,d] B (A9 (tst 12)).names f (.rng 0 4 4) (i+1) (lc (A9 (tst 12)).names sl') H2) rfl rfl rfl ?_).mono λm' H3⟨sl',e,k⟩=>e▸k;show WS1.for rfl (InJ H' n [some (.bytes B),some ↑f,some (.int (0+(i:Int)*4))] (A9 (tst 12)).names) (λg g=>rfl) ?_ ?_ ?_ ?_
  .apply @WI _ _ _ _ Y;show WI.be Pr (.cons (λg g=>rfl) .nil) (Ah (i:=8) rfl) (.cons (λg g=>rfl) (WE.sliceB (λg g=>rfl) (exE (ex:=.loc 0) Al rfl (WP.some (exE (ex:=.loc 2) Al rfl {_,rfl,WP.some (exE (ex:=.bin .Add 'C' 'e') Al rfl {_,rfl,B,rfl,by show lin 25302782017 295 tt hL,.nil ?_})})))));rw[<- hB,Us e1];show WIc.rev (show 4<=2^20 by decide) {.rev,w,rfl,rfl,bV _,rfl}
  .clear a b c d hr hk hB hL v w x hf hb hi2 e e1 hn;rintro sq i m' H' ⟨u,rfl,rfl,hi,rfl⟩;show eE
  .rintro sq k m' H2 t ⟨u,rfl,rfl,hk2,rfl⟩ e;clear a b c d hr hk hB hL v w hi hf hi2 e1 hk2 x hb;obtain⟨hk3,rfl⟩:=rev_at e;have hk3:k<4:=hk3;show WG.name (k:=.local) (Bc (i:=4) rfl) (.inl rfl) (λg g h=>absurd h aD) ?_;show(exS (st:=.set 3 (.bin .BitOr (.bin .LShift 'D' 'i') 'E') .done) (sl:=[some (.bytes B),some ↑f,some (.int (0+(i:Int)*4)),some (.int (if k<4 then 0 else n)),some (.int ((word n).getD ((word n).length-1-k) 0).toNat)]) (KN:=λsl' H3=>InJ H2 n [some (.bytes B),some ↑f,some (.int (0+(i:Int)*4))] (A9 (tst 12)).names (.rev (word n)) (k+1) (lc (A9 (tst 12)).names sl') H3) rfl rfl rfl ?_).mono λm' H3⟨sl',e,k⟩=>e▸k;rw[if_pos hk3];show W2.shl (dte tt) (dte tt) (W2.bor ?_);have:la (0*2^(8:Int).toNat) ((word n).getD ((word n).length-1-k) 0).toNat=if k+1<4 then 0 else n:=by
    rcases lt4 hk3 with e|e|e|e<;>rw[e]
    .show Km 0
    .show Km 0
    .show Km 0
    .have:=Km {n.toNat,by show lin 0x7b500e1585b38b40a900e049 11560 tt hn (bD hn.1)}
     dsimp only at this
     simp only[bD hn.1]at this;show this
   rw[this];show⟨_,rfl,rfl,hk3,rfl⟩
  .rintro sq k m' H2 ⟨u,rfl,rfl,hk2,rfl⟩ e;have he:4<=k:=X8 e;show{_,rfl,?_};rw[if_neg (g8.mpr he)];apply @evS _ _ _ _ _ Y _;show .blt "list.append" (Gm.list cI rfl ⟨rfl,hb⟩) ?_;show WC.append hb (by simp only[aA,dT];show aC (p6 _ _) (by first|assumption|show cF (by assumption)|show cL (by assumption)|decide|show cr _|show aC (by assumption) (nle rfl))) {_,_,_,rfl,rfl,hi2,x.new hf,hf,(if_pos rfl).trans ?_}
   simp only[cE,e1,aJ];rfl
 .rintro sq i m' H' ⟨u,v,w,rfl,rfl,hi,x,hf,hb⟩ e;have he:=Ct e;clear e;obtain rfl:i=4:=cA hi he;show{_,rfl,hk f H' x hf hb}
theorem Ut{xs:List V}:∀{k:Nat},((cG k).map (a+·)).filterMap (xs[·]?)=(xs.drop a).take k:=by
 intro l9
 induction l9 with
 |zero=>show rfl
 |succ k ih =>
  skip;simp only[dF,aJ,fN,ih,cE,List.getElem?_drop];congr 1
theorem Jg{xs:List V}{lo hi:Option Int}{a b:Nat}(e:gN lo hi none xs.length=((a:Int),(b:Int),1)):H0 xs lo hi none=(xs.drop a).take (b-a):=by
 unfold H0;rw[e];rw[sliceRange_one,Ut]
theorem Sc(e:hw ns=[a,b,c,d])(hl:ns.length<=3):H0 ([a,b,c,d].map .int) (some 1) (some (1+ns.length)) none=ns.map .int:=by
 rw[<- e];clear e;apply Y;rcases len3 hl with rfl|⟨a,rfl⟩|⟨a,b,rfl⟩|⟨a,b,c,rfl⟩
 .show Jg (a:=1) (b:=1) rfl
 .show Jg (a:=1) (b:=2) rfl
 .show Jg (a:=1) (b:=3) rfl
 .show Jg (a:=1) (b:=4) rfl
theorem Ml(hs:Ha ns)(hp:(ns.length:Int)<=pl)(hk:∀H',Ext H H'->K (.list (ns.map .int)) H'):WC F.u.u ↑116 [.bytes (Ca ns),.int pl] H K:=by
 obtain⟨a,b,c,d,e,hr⟩:=X7 hs;have ea:=(ib e).1.symm;unfold Ca;rw[e];show Aw 4 rfl rfl ?_;apply @evS _ _ _ _ _ Y _;show Ko (F:=F.bd) hr λf H' x hf hb=>?_;have as:AsL H' ↑f (some f) ([a,b,c,d].map .int):=⟨rfl,hb⟩;have a0:∀{K:V->AH->Prop},K (.int a) H'->G2 F.bd.u ↑f (.int 0) H' K:=λk=>G2.list as (dte tt) (dte tt) rfl k;show WC.bg as (show 4<=2^40 by decide) ?_;show a0 (bifD (λe2=>by simp only[ea]at e2;show absurd hp (gA.mpr e2)) λg=>?_);apply @ev _ _ _ _ _ _ Y;show a0 (WC.bg as (show 4<=2^40 by decide) (bifD (λe2=>?_) λg=>?_))
 .apply Y;have:(4:Int)<=a:=e2;omega
 show a0 ?_;apply @binV _ _ _ _ _ Y;rw[ea];show .list (some f) _ as (λy=>absurd y (dte tt)) (show 4<=2^20 by decide) ?_;rw[Sc e hs.1];show hk H' x
end
section
structure Ru where
 x:CA
 y:DA
 rest:List (aK×AObj)
 rows:List Row
 s:DS
 g:CG
 b:Nat
 X:AH->Prop
structure Ru.Ok(r:Ru):Prop where
 I:DI r.s (r.b+r.rows.length)
 rows:∀q∈r.rows,En r.s.blocks q
 room:Room r.g
 hc:(exec r.s r.rows).1=true->∀H' u,HL H' ((exec r.s r.rows).2.objs {r.y with u:=u}++r.rest)->r.X H'
inductive Ru.At(r:Ru)(R:List Row)(H:AH):Prop
 |mk(P:List Row)(e0:r.rows=P++R)(u:aK)(e:(exec r.s P).1=false)(C:CH H r.x (exec r.s P).2 {r.y with u:=u} r.rest (r.g.b5 P))
def Ru.St(r:Ru)(m:Int):Prop:=∀p,some p∈r.rows->p.1=m->p.2=r.g.V m
variable{F:Fx}{H:AH}{K:V->AH->Prop}{r:Ru}{R P:List Row}{n:Int}{o:Oct}{nm:bY}{f:aK}{k:aL->Prop}
theorem Gk{rs:List Row}:∀{g:CG},(g.b5 rs).h=g.h/\(g.b5 rs).p=g.p/\(g.b5 rs).B=g.B/\(g.b5 rs).most=g.most:=by
 induction rs with
 |nil=>show⟨rfl,rfl,rfl,rfl⟩
 |cons q rs ih=>intro g;rcases q<;>show ih
theorem Mm:∀{g:CG},(∀p,some p∈rs->p.1=m->p.2=g.V m)->(g.b5 rs).V m=g.V m:=by
 induction rs with
 |nil=>show λa=>rfl
 |cons q rs ih=>
  intro g h
  induction q using Option.casesOn with
  |none=>show ih λp hp=>h p (.tail _ hp)
  |some p=>
   have e:(g.put p.1 p.2).V m=g.V m:=by
    by_cases e:m=p.1
    .show(congrArg _ e).trans (Ag.trans (h p (.head _) e.symm))
    .show Af e
   show(ih (g:=g.put p.1 p.2) λp hp e1=>(h p (.tail _ hp) e1).trans e.symm).trans e
theorem Room.b5(h:Room g):Room (g.b5 rs):=by
 obtain⟨U,h1,h2⟩:=h;have e:=Gk (rs:=rs) (g:=g);show{U,λm hm=>h1 m λe1=>?_,by simp only[e.2.2.2];show h2};rw[<- e.2.1];show hm (by rw[e.1];show e1)
theorem Ru.Ok.di(o:r.Ok)(e0:r.rows=P++R)(e:(exec r.s P).1=false):DI (exec r.s P).2 (r.b+R.length)/\(exec r.s P).2.blocks=r.s.blocks:=by
 show DI.run (o.I.less ?_) (λq hq=>o.rows q (by rw[e0];show aU _ hq)) e;simp only[e0,aV];show lin 0x9948430c8721043 7 tt
theorem Ru.At.af(a:r.At R H)(T:MtF 433 nm f)(e:∀(c:CS)d,lget (c.names r.x d) nm=none)(hk:k ↑f):Av F H ↑r.x.a nm k:=let ⟨_,_,_,_,C⟩:=a;C.af T (λc=>e c _) hk
theorem Ru.At.tail(a:r.At R H):HL H r.rest:=let ⟨_,_,_,_,C⟩:=a;C.tail
theorem Ru.At.ext(a:r.At R H)(e:Ext H H'):r.At R H':=let ⟨P,e0,u,e1,C⟩:=a;{P,e0,u,e1,C.ext e}
theorem Ru.At.peek(a:r.At R H)(ok:r.Ok)(hn:0<=n/\n<r.s.blocks)(st:r.St n)(hK:∀H',r.At R H'->K (.bytes (r.g.V n)) H'):WC F.u.u.u.u.u.u.u ↑404 [↑r.x.a,.int n] H K:=by
 apply Y;obtain⟨P,e0,u,e,C⟩:=id a;obtain⟨I,eb⟩:=ok.di e0 e;show Nn C I.ok I.on (by rw[eb];show hn) ok.room.b5 λH' C'=>?_;rw[Mm λp hp=>st p (by rw[e0];show aU _ hp)];show hK H' ⟨P,e0,u,e,C'⟩
theorem G9(e:(exec s P).1=false):exec s (P++[q])=bif (exec s P).2.out q then (true,{ (exec s P).2 with dead:=true}) else (false,(exec s P).2.stp q):=by rw[Eu,e];rfl
theorem Ru.Ok.crash(ok:r.Ok)(e0:r.rows=P++q::R)(e:(exec r.s P).1=false)(c:(exec r.s P).2.out q=true)(h:HL H' (({ (exec r.s P).2 with dead:=true}:DS).objs {r.y with u:=u}++r.rest)):r.X H':=by
 have:exec r.s r.rows=(true,{ (exec r.s P).2 with dead:=true}):=by rw[e0,Eu,e];show(congrArg (bif · then _ else _) c)
 have hc:=ok.hc;rw[this]at hc;show hc rfl H' u h
theorem Ru.At.poke(a:r.At (some (n,o)::R) H)(ok:r.Ok)(hX:r.X=F.KX 95)(hK:∀H',r.At R H'->K .none H'):WC F.u.u.u.u.u.u.u ↑411 [↑r.x.a,.int n,.bytes o] H K:=by
 apply Y;obtain⟨P,e0,u,e,C⟩:=id a;obtain⟨I,eb⟩:=ok.di e0 e;have ro:=ok.rows _ (by rw[e0];show aG _ (.head _));show X4 C I.ok I.on ((eb▸ro.1)) ro.2 ok.room.b5 (λeo H' h=>hX▸ok.crash e0 e eo h) λeo H' C'=>hK H' {P++[some (n,o)],by simp only[e0,aH];rfl,u,?_,?_}
 .rw[G9 e,show(exec r.s P).2.out (some (n,o))=false from eo];rfl
 .rw[G9 e,show(exec r.s P).2.out (some (n,o))=false from eo];unfold CG.b5 at C' ⊢;rw[fP];show C'
theorem Ru.At.flush(a:r.At (none::R) H)(ok:r.Ok)(hX:r.X=F.KX 95)(hK:∀H',r.At R H'->K .none H'):WC F.u.u.u.u.u.u ↑397 [↑r.x.a] H K:=by
 apply Y;obtain⟨P,e0,u,e,C⟩:=id a;obtain⟨I,eb⟩:=ok.di e0 e;show Q3 C I.ok I.on (λeo H' h=>hX▸ok.crash e0 e eo h) λeo H' u' C'=>hK H' {P++[none],by simp only[e0,aH];rfl,u',?_,?_}
 .rw[G9 e,show(exec r.s P).2.out none=false from eo];rfl
 .rw[G9 e,show(exec r.s P).2.out none=false from eo];unfold CG.b5 at C' ⊢;rw[fP];show C'
end
section
variable{F:Fx}{H:AH}{K:V->AH->Prop}{r:Ru}{R:List Row}{v:V}{o:Option aK}{l:List (aK×AObj)}{j:JS}{z:JA}{ns:List Int}
theorem Ru.At.jr(a:r.At R H)(hr:r.rest=j.objs z r.x.a++l):HL H (j.objs z r.x.a++l):=hr▸a.tail
theorem Ru.At.size(a:r.At R H)(hk:K (.int 16) H):Aa H ↑r.x.a "size" K:=let ⟨_,_,_,_,C⟩:=a;C.attr (A8 6) (λb b=>rfl) hk
theorem X9(as:AsL H v o xs)(e:Ext H H'):AsL H' v o xs:=by
 induction v using V.casesOn with
 |list=>show as
 |ref a=>show{as.1,e _ _ as.2}
 |_=>show as.elim
theorem Sd(as:AsL H v o xs):(Sq.enum o xs).stays H:=by
 induction v using V.casesOn with
 |list=>obtain⟨rfl,rfl⟩:=as;show eE
 |ref a=>obtain⟨rfl,e⟩:=as;show e
 |_=>show as.elim
def Gn(st:Int)(ns:List Int):List Row:=[some (st,Ca ns),none]
def logR(V:Int->Oct):Int->List Int->List Row
 |_,[]=>[none]
 |st,n::r=>some (st,V n)::logR V (st+1) r
def insR(V:Int->Oct)(fl:Bool):Int->List Int->List Row
 |_,[]=>[none]
 |st,n::r=>some (n,V (if fl then st else n))::insR V fl (st+1) r
theorem Ck(hr:r.rest=j.objs z r.x.a++l)(a:r.At (Gn j.start ns++R) H)(ok:r.Ok)(hX:r.X=F.KX 95)(as:AsL H v o (ns.map .int))(hs:Ha ns)(hK:∀H',r.At R H'->K .none H'):
  WC F.u.u.u.u.u.u.u.u ↑194 [↑z.a,v] H K:=by
 have h:=a.jr hr;show Aw 14 rfl rfl ?_;apply @evS _ _ _ _ _ Y _;show Aa.at h 0 1 rfl rfl A6 (A8 22) rfl (a.af (Ao 13 rfl) (λb b=>rfl) ?_);show(let K0:=_;let K3:=_;(?_:@evL K0 _ _ K3));show Aa.at h 0 1 rfl rfl A6 (A8 23) rfl (Aa.at h 0 1 rfl rfl A6 (A8 22) rfl (a.size ?_));apply @evL Y _ _ _;show Sa (F:=F.bd.u.u.u.u.u.u) as hs λH1 x=>?_;show(a.ext x).poke (F:=F.bd) ok hX λH2 a2=>?_;apply @evS Y _ _ _ _ _ _;show Aa.at (a2.jr hr) 0 1 rfl rfl A6 (A8 22) rfl (a2.af (Ao 11 rfl) (λb b=>rfl) ?_);show a2.flush (F:=F.bd.u) ok hX hK
inductive FiJ(r:Ru)(f:Int->List Int->List Row)(st:Int)(R:List Row)(ns:List Int)(m0:List (Option V))(o:Option aK)(nm:List (bY×aY))(sq:Sq)(k:Nat)(m:Loc)(H':AH):Prop
 |mk(u w t:Option V)(hm:m=lc nm (m0++[u,w,t]))(e:sq=.enum o (ns.map .int))(hk:k<=ns.length)(a:r.At (f (st+k) (ns.drop k)++R) H')
theorem Np(e:(Sq.enum o (ns.map .int)).at k=none):ns.drop k=[]:=by
 have:=aO.mp (ik.mp e);rw[aA]at this;show g9 this
theorem Df{α:Type}{l:List α}{n:α}(e:l[k]?=some n):l.drop k=n::l.drop (k+1):=by
 obtain⟨h,e9⟩:=aI.mp e;rw[<- e9];show List.drop_eq_getElem_cons h
theorem Kp{st:Int}:st+((k+1:Nat):Int)=st+k+1:=lin 0xeaca812ca950949 7175 tt
theorem Ih(hr:r.rest=j.objs z r.x.a++l)(a:r.At (logR r.g.V (j.start+1) j.nums++R) H)(ok:r.Ok)(hX:r.X=F.KX 95)(hn:∀n∈j.nums,(0<=n/\n<r.s.blocks)/\r.St n)(hK:∀H',r.At R H'->K .none H'):
  WC F.u.u.u.u.u.u.u.u ↑187 [↑z.a] H K:=by
 show Aw 13 rfl rfl ?_;apply @evS Y _ _ _ _ _ _;show WS1.for rfl (FiJ r (logR r.g.V) (j.start+1) R j.nums [some ↑z.a] (some z.q) (A9 (cst 14 8)).names) (λb b=>rfl) ?_ ?_ ?_ ?_
 .show WI.be Cs (.cons (λb b=>rfl) .nil) (Ah (i:=3) rfl) (.cons (λb b=>rfl) (exE (ex:=.attr 'A' "numbers") Al rfl (Aa.at (a.jr hr) 0 1 rfl rfl A6 (A8 28) rfl (.nil (WIc.enum {rfl,(a.jr hr).get 2 rfl} {.enum,{none,none,none,rfl,rfl,bV _,by simp only[dP,ci];show a}})))))
 .rintro sq k m' H' ⟨u,w,t,rfl,rfl,hk,a⟩;show(a.jr hr).get 2 rfl
 .rintro sq k m' H' v ⟨u,w,t,rfl,rfl,hk,a⟩ e;show(let K1:=_;let K5:=_;(?_:@WG _ K1 _ _ _ K5));obtain⟨w',ew,rfl⟩:=bF.mp e;obtain⟨n,en,e9⟩:=Bt ew;rw[e9];have h:=a.jr hr;rw[Df en]at a;show WG.nms (is:=[1,2]) rfl rfl rfl rfl ?_;show(exS (st:=(.expr (.af (.attr 'A' "cache") "poke" [(.bin .Add (.bin .Add (.attr 'A' "start") 'b') 'B'),(.af (.attr 'A' "cache") "peek" ['C'])]) .done)) (sl:=[some ↑z.a,some (.int k),some (.int n),t]) (KN:=λsl' H2=>FiJ r (logR r.g.V) (j.start+1) R j.nums [some ↑z.a] (some z.q) (A9 (cst 14 8)).names (.enum (some z.q) (j.nums.map .int)) (k+1) (lc (A9 (cst 14 8)).names sl') H2) rfl rfl rfl ?_).mono λm' H3 z9=>by obtain⟨sl',e,k⟩:=z9;show e▸k
  show(let K4:=_;let K5:=_;(?_:@evS _ _ _ _ K4 K5 _));show Aa.at h 0 1 rfl rfl A6 (A8 22) rfl (a.af (Ao 13 rfl) (λb b=>rfl) ?_);show(let K0:=_;let K3:=_;(?_:@evL K0 _ _ K3));show Aa.at h 0 1 rfl rfl A6 (A8 23) rfl (Aa.at h 0 1 rfl rfl A6 (A8 22) rfl (a.af (Ao 12 rfl) (λb b=>rfl) ?_));have hn':=hn n (aX en);show a.peek (F:=F.bd) ok hn'.1 hn'.2 λH2 a2=>?_;show a2.poke (F:=F.bd) ok hX λH3 a3=>{_,_,t,rfl,rfl,((aI.mp en).1),(Kp▸a3)}
 .rintro sq k m' H' ⟨u,w,t,rfl,rfl,hk,a⟩ e;rw[Np e]at a;show{_,rfl,Aa.at (a.jr hr) 0 1 rfl rfl A6 (A8 22) rfl (a.af (Ao 11 rfl) (λb b=>rfl) (a.flush (F:=F.bd.u) ok hX hK))}
theorem Go{fl:Bool}(hr:r.rest=j.objs z r.x.a++l)(a:r.At (insR r.g.V fl (j.start+1) ns++R) H)(ok:r.Ok)(hX:r.X=F.KX 95)(as:∀H',HL H' (j.objs z r.x.a++l)->AsL H' v o (ns.map .int))
  (hn:∀(k:Nat)n,ns[k]?=some n->(0<=(if fl then j.start+1+k else n)/\(if fl then j.start+1+k else n)<r.s.blocks)/\r.St (if fl then j.start+1+k else n)) (hK:∀H',r.At R H'->K .none H') :
  WC F.u.u.u.u.u.u.u.u ↑201 [↑z.a,v,.bool fl] H K:=by
 show Aw 15 rfl rfl ?_;apply @evS Y _ _ _ _ _ _;show WS1.for rfl (FiJ r (insR r.g.V fl) (j.start+1) R ns [some ↑z.a,some v,some (.bool fl)] o (A9 (cst 14 10)).names) (λ_ _=>rfl) ?_ ?_ ?_ ?_
 .show WI.be Cs (.cons (λ_ _=>rfl) .nil) (Ah (i:=6) rfl) (.cons (λ_ _=>rfl) (exE (ex:=.loc 1) Al rfl (.nil (WIc.enum (as H (a.jr hr)) {.enum,{none,none,none,rfl,rfl,bV _,by rw[dP,ci];show a}}))))
 .rintro sq k m' H' ⟨u,w,t,rfl,rfl,hk,a⟩;show Sd (as H' (a.jr hr))
 .rintro sq k m' H' w0 ⟨u,w,t,rfl,rfl,hk,a⟩ e;obtain⟨w',ew,rfl⟩:=bF.mp e;obtain⟨n,en,rfl⟩:=Bt ew;have hk':=(aI.mp en).1;have h:=a.jr hr;rw[Df en]at a;have hn':=hn k n en;show WG.nms (is:=[3,4]) rfl rfl rfl rfl ?_;show(exS (st:=(.set 5 (.af (.attr 'A' "cache") "peek" [(.ife 'C' (.bin .Add (.bin .Add (.attr 'A' "start") 'b') 'D') 'E')]) (.expr (.af (.attr 'A' "cache") "poke" ['E','F']) .done))) (sl:=[some ↑z.a,some v,some (.bool fl),some (.int k),some (.int n),t]) (KN:=λsl' H2=>FiJ r (insR r.g.V fl) (j.start+1) R ns [some ↑z.a,some v,some (.bool fl)] o (A9 (cst 14 10)).names (.enum o (ns.map .int)) (k+1) (lc (A9 (cst 14 10)).names sl') H2) rfl rfl rfl ?_).mono λm' H3⟨sl',e,k⟩=>e▸k;apply @evS _ _ _ _ _ Y _;show Aa.at h 0 1 rfl rfl A6 (A8 22) rfl (a.af (Ao 12 rfl) (λ_ _=>rfl) ?_);have go:∀{m:Int},m=(if fl then j.start+1+k else n)->WC F.u.u.u.u.u.u.u.bd ↑404 [↑r.x.a,.int m] H' λv1 H1=>evS F.u.u.u.u.u.u.u.bd (A9 (cst 14 10)).names K (.expr (.af (.attr 'A' "cache") "poke" ['E','F']) .done) (λsl' H2=>FiJ r (insR r.g.V fl) (j.start+1) R ns [some ↑z.a,some v,some (.bool fl)] o (A9 (cst 14 10)).names (.enum o (ns.map .int)) (k+1) (lc (A9 (cst 14 10)).names sl') H2) [some ↑z.a,some v,some (.bool fl),some (.int k),some (.int n),some v1] H1:=λ{m}em=>by
   subst em;apply @WC _ _ _ _ Y;show a.peek (F:=F.bd) ok hn'.1 hn'.2 λH2 a2=>?_;show Aa.at (a2.jr hr) 0 1 rfl rfl A6 (A8 22) rfl (a2.af (Ao 13 rfl) (λ_ _=>rfl) ?_);show a2.poke (F:=F.bd) ok hX λH3 a3=>{_,_,_,rfl,rfl,hk',by rw[Kp];show a3}
  induction fl using Bool.casesOn with
  |true=>show Aa.at h 0 1 rfl rfl A6 (A8 23) rfl (go rfl)
  |false=>show go rfl
 .rintro sq k m' H' ⟨u,w,t,rfl,rfl,hk,a⟩ e;rw[Np e]at a;show{_,rfl,Aa.at (a.jr hr) 0 1 rfl rfl A6 (A8 22) rfl (a.af (Ao 11 rfl) (λ_ _=>rfl) (a.flush (F:=F.bd.u) ok hX hK))}
end
section
variable{F:Fx}{H:AH}{K:V->AH->Prop}{x:CA}{s:DS}{y:DA}{g:CG}{l:List (aK×AObj)}{j:JS}{z:JA}{b:Nat}{V':Int->Oct}{st:Int}{ns:List Int}{p:Int×Oct}
def grp(V:Int->Oct)(st:Int)(ns:List Int):List Row:=logR V (st+1) ns++(Gn st ns++(insR V false (st+1) ns++Gn st []))
structure Jok(j:JS)(blocks:Int):Prop where
 st:0<=j.start
 pl:1<=j.pl/\j.pl<=3
 en:j.start+(j.pl+1)<=blocks/\blocks<=100
 each:0<=j.each/\j.each<=3
 nums:∀n∈j.nums,(0<=n/\n<blocks)/\¬ (j.start<=n/\n<j.start+(j.pl+1))
 nd:j.nums.Nodup
 len:(j.nums.length:Int)<=j.pl
 calls:0<=j.calls/\j.calls<=1000
theorem Jok.small(J:Jok j bl):Ha j.nums:=⟨by have:=J.len;have:=J.pl;show lin 0x185a05ec1ecac2dd23d849 10535 tt ‹_› this,λn hn=>by have:=(J.nums n hn).1;have:=J.en;show{by show lin 0x7b4c5616cc2d90 295 tt ‹_›,by show lin 0x7b505616cf6610c44aa733500e160 11592 tt ‹_› this}⟩
theorem Ol:∀{ns:List Int}{st:Int},some p∈logR V' st ns->(st<=p.1/\p.1<st+ns.length)/\∃n∈ns,p.2=V' n:=by
 intro l9
 induction l9 with
 |nil=>intro st h;apply Y;cases aP.mp h
 |cons n r ih =>
  intro st h;apply Y;rcases aS.mp h with e8|h
  .cases e8;show{{bM _,by simp only[cK];show lin 933394196809 225 tt},n,.head _,rfl}
  .skip;obtain⟨h1,m,hm,e⟩:=ih h;show{{(cO (cF ‹_›)),by simp only[cK];show lin 0xf6ca81a98ac2d4cd952a13151 296 tt h1},m,.tail _ hm,e}
theorem Hi:∀{ns:List Int}{st:Int},some p∈insR V' fl st ns->p.1∈ns/\∃k<ns.length,p.2=V' (if fl then st+k else p.1):=by
 intro l9
 induction l9 with
 |nil=>intro st h;apply Y;cases aP.mp h
 |cons n r ih =>
  intro st h;rcases aS.mp h with e8|h
  .cases e8;show{.head _,0,my _,by rcases fl<;>simp}
  .skip;apply Y;obtain⟨h1,k,hk,e⟩:=ih h;show{.tail _ h1,k+1,oN hk,e.trans ?_};rw[show st+1+(k:Int)=st+((k+1:Nat):Int) by show lin 0xe952a12ca81a949 7175 tt]
theorem Cy(h:some p∈Gn st ns):p=(st,Ca ns):=by
 rcases aS.mp h with e8|h
 .cases e8;rfl
 .cases aP.mp h
theorem Dt(h:ns.length<=3):(Ca ns).length=16:=by
 unfold Ca;rw[Hh];unfold hw;simp only[aV,cK,hZ];show congrArg (4*·) ((nQ _ 1 _).trans (congrArg k8 (Nat.add_sub_cancel' h)))
theorem Nq(J:Jok j bl)(h:some p∈grp V' j.start j.nums):((j.start<=p.1/\p.1<j.start+(j.pl+1))/\(p.2.length=16\/∃n,p.2=V' n))\/(p.1∈j.nums/\p.2=V' p.1):=by
 have:=J.pl;have:=J.len;rcases aZ.mp h with h|h
 .obtain⟨h1,n,a,e⟩:=Ol h;show .inl {{(cO (cF ‹_›)),by show lin 0x61e817b6540d4c5616a66caa73159 10535 tt this h1},.inr ⟨n,e⟩}
 rcases aZ.mp h with h|h
 .rw[Cy h];show .inl {{bM _,by change j.start<_;lia},.inl (Dt (lin 0x1ec1ecac2dd85a0523d849 10536 tt ‹_› this))}
 rcases aZ.mp h with h|h
 .obtain⟨h1,k,a,e⟩:=Hi h;show .inr ⟨h1,e⟩
 .rw[Cy h];show .inl {{bM _,by change j.start<_;lia},.inl (Dt (nle tt))}
theorem Om(J:Jok j bl)(hV:∀n,(V' n).length=16):∀q∈grp V' j.start j.nums,En bl q:=λq hq=>by
 induction q using Option.casesOn with
 |none=>show eE
 |some p=>
  have:=J.st;have:=J.en;rcases Nq J hq with⟨h1,h2⟩|⟨h1,h2⟩
  .show{{bH ‹_› (cF ‹_›),bH (cL ‹_›) (cF ‹_›)},h2.elim id λz9=>z9.elim λn e=>e▸hV n}
  .show{(J.nums _ h1).1,h2▸hV _}
theorem On{rs:List Row}:∀{s:DS}{g:CG},(exec s rs).1=false->(s.at_ m=g.V m\/∃o,some (m,o)∈rs)->(exec s rs).2.at_ m=(g.b5 rs).V m:=by
 induction rs with
 |nil=>show λa h=>h.elim id λz9=>z9.elim λa h=>absurd h aD
 |cons q rs ih=>
  intro s g e h;simp only[Bs]at e ⊢;rcases eo:s.out q<;>rw[eo]at e
  .clear eo;induction q using Option.casesOn with
   |none=>show ih (s:=s.fl) e (h.imp id λz9=>z9.elim λo h=>{o,(aS.mp h).resolve_left λy=>absurd y (aF _)})
   |some p=>
    show ih (s:=s.wr p.1 p.2) (g:=g.put p.1 p.2) e ?_;rcases bB (m=p.1) with em|em
    .show .inl (Q1.trans ((if_pos em).trans (if_pos em).symm))
    .show h.imp (λh=>Q1.trans ((if_neg em).trans (h.trans (if_neg em).symm))) λz9=>z9.elim λo h=>{o,(aS.mp h).resolve_left λy=>em ?_};show(bL y)▸rfl
  .show aR e
def CG.minus(g:CG)(l:List Int):CG:={g with p:=λn=>if n∈l then g.p n-1 else g.p n}
theorem Ru.At.done{r:Ru}(a:r.At [] H):∃u,(exec r.s r.rows).1=false/\CH H r.x (exec r.s r.rows).2 {r.y with u:=u} r.rest (r.g.b5 r.rows):=by
 apply Y;obtain⟨P,e0,u,e,C⟩:=a;simp only[bG]at e0;show{u,by rw[e0];show e,by rw[e0];show C}
theorem Nr{n:Int}:∀{ns:List Int}{st:Int},n∈ns->some (n,V' n)∈insR V' false st ns
 |m::r,st,h=>by
  apply Y;rcases aS.mp h with e8|h
  .subst e8;show .head _
  .show .tail _ (Nr h)
inductive UnJ(x:CA)(s:DS)(y:DA)(l:List (aK×AObj))(g:CG)(ns:List Int)(v:V)(q:aK)(nm:List (bY×aY))(sq:Sq)(k:Nat)(m:Loc)(H':AH):Prop
 |mk(u:Option V)(hm:m=lc nm [some v,u])(e:sq=.vals (some q) (ns.map .int))(hk:k<=ns.length)(C:CH H' x s y l (g.minus (ns.take k)))
theorem Se(C:CH H x s y (j.objs z x.a++l) g)(I:DI s (b+(grp g.V j.start j.nums).length))(R:Room g)(J:Jok j s.blocks)(hp:∀n∈j.nums,g.p n≠0)
  (hc:(exec s (grp g.V j.start j.nums)).1=true->∀H' u,HL H' ((exec s (grp g.V j.start j.nums)).2.objs {y with u:=u}++(j.objs z x.a++l))->F.KX 95 H')
  (hk:(exec s (grp g.V j.start j.nums)).1=false->∀H' u z',z'.a=z.a->CH H' x (exec s (grp g.V j.start j.nums)).2 {y with u:=u} (({j with nums:=[],ay:=j.ay+1}:JS).objs z' x.a++l) ((g.b5 (grp g.V j.start j.nums)).minus j.nums)->K .none H') :
  WC F.u.u.u.u.u.u.u.u.u ↑180 [↑z.a] H K:=by
 apply @WC Y _ _ _ _;let r:Ru:={x:=x,y:=y,rest:=j.objs z x.a++l,rows:=grp g.V j.start j.nums,s:=s,g:=g,b:=b,X:=F.KX 95};have ok:r.Ok:={I,Om J λc=>C.len,R,hc};have a0:r.At r.rows H:={[],rfl,y.u,rfl,C};have stb:∀n∈j.nums,r.St n:=λn hn p hp e=>by
  rcases Nq J hp with⟨h1,c⟩|⟨h1,h2⟩
  .show absurd (e▸h1) (J.nums n hn).2
  .show e▸h2
 show Aw 12 rfl rfl ?_;have h:=C.tail;show Av.at h 0 1 rfl rfl A6 (Ao 32 rfl) rfl (Ih (F:=F.bd) (j:=j) (z:=z) (l:=l) rfl a0 ok rfl (λn hn=>{(J.nums n hn).1,stb n hn}) λH1 a1=>?_);have h:=a1.tail;show Av.at h 0 1 rfl rfl A6 (Ao 33 rfl) rfl (Aa.at h 0 1 rfl rfl A6 (A8 28) rfl (Ck (F:=F.bd) (j:=j) (z:=z) (l:=l) rfl a1 ok rfl {rfl,h.get 2 rfl} J.small λH2 a2=>?_));have h:=a2.tail;show Av.at h 0 1 rfl rfl A6 (Ao 34 rfl) rfl (Aa.at h 0 1 rfl rfl A6 (A8 28) rfl (Go (F:=F.bd) (j:=j) (z:=z) (l:=l) (o:=some z.q) rfl a2 ok rfl (λH' h=>{rfl,h.get 2 rfl}) (λk n e=>{(J.nums n (aX e)).1,stb n (aX e)}) λH3 a3=>?_));have h:=a3.tail;show Av.at h 0 1 rfl rfl A6 (Ao 33 rfl) rfl {(by decide:0<=2^20),.data ?_};show Ck (F:=F.bd) (j:=j) (z:=z) (l:=l) (ns:=[]) (R:=[]) (o:=none) rfl a3 ok rfl ⟨rfl,rfl⟩ {dte tt,λc h=>absurd h aD} λH4 a4=>?_;apply @evS Y _ _ _ _ _ _;obtain⟨u,e,C4⟩:=a4.done;have hk:=hk e;have hat:∀n∈j.nums,(exec s (grp g.V j.start j.nums)).2.at_ n=(g.b5 (grp g.V j.start j.nums)).V n:=λn hn=>On e (.inr {g.V n,aG _ (aG _ (aU _ (Nr hn)))});have hp:∀n∈j.nums,(g.b5 (grp g.V j.start j.nums)).p n≠0:=(Gk.2.1.symm▸hp);clear a0 a1 a2 a3 a4 stb ok hc;generalize g.b5 (grp g.V j.start j.nums)=g2 at C4 hk hat hp;generalize (exec s (grp g.V j.start j.nums)).2=s2 at C4 hk hat;generalize hy:({y with u:=u}:DA)=y2 at C4;show WS1.for rfl (UnJ x s2 y2 (j.objs z x.a++l) g2 j.nums ↑z.a z.q (A9 (cst 14 7)).names) (λc c=>rfl) ?_ ?_ ?_ ?_
 .show .list (exE (ex:=.attr 'A' "numbers") Al rfl (Aa.at C4.tail 0 1 rfl rfl A6 (A8 28) rfl {some z.q,_,{rfl,C4.tail.get 2 rfl},.vals,{none,rfl,rfl,bV _,C4.congr rfl (λc=>⟨rfl,rfl,rfl⟩) λc c=>rfl}}))
 .rintro sq k m' H' ⟨u,rfl,rfl,hk,C⟩;show C.tail.get 2 rfl
 .rintro sq k m' H' v ⟨u,rfl,rfl,hk,C⟩ e;obtain⟨n,en,e9⟩:=Bt e;simp only[e9];have hn:=aX en;have hk':=(aI.mp en).1;have nt:=λhm=>by
   have nd:=J.nd;rw[<- gR k j.nums,Df en]at nd;show(eC.mp nd).2.2 n hm n (.head _) rfl
  have ep:(g2.minus (j.nums.take k)).p n=g2.p n:=if_neg nt;show WG.name (k:=.local) (Bc (i:=1) rfl) (.inl rfl) (λc c h=>absurd h aD) ?_;show(exS (st:=(.expr (.af (.attr 'A' "cache") "unpin" ['B']) .done)) (sl:=[some ↑z.a,some (.int n)]) (KN:=λsl' H2=>UnJ x s2 y2 (j.objs z x.a++l) g2 j.nums ↑z.a z.q (A9 (cst 14 7)).names (.vals (some z.q) (j.nums.map .int)) (k+1) (lc (A9 (cst 14 7)).names sl') H2) rfl rfl rfl ?_).mono λm' H3 z9=>by obtain⟨sl',e,k⟩:=z9;show e▸k
  show Aa.at C.tail 0 1 rfl rfl A6 (A8 22) rfl (C.af (Ao 9 rfl) (λc=>rfl) ?_);show Q0 (F:=F.bd.u.u.u.u.u.u.u) C (ep▸hp n hn) (λc c=>(hat n hn).symm) λH2 C2=>{_,rfl,rfl,hk',C2.congr rfl (λm=>{rfl,rfl,?_}) λc c=>rfl};change(if m∈j.nums.take (k+1) then g2.p m-1 else g2.p m)=upd (g2.minus (j.nums.take k)).p n _ m;simp only[cE,en,oC];by_cases e:m=n
  .clear I R J H3 h H4 hp hat y2 hy C4 H' u hk C en hn hk' nt H2 C2;rw[e];rw[if_pos (aG _ (.head _)),Ag,ep]
  .rw[Af e];change _=if m∈j.nums.take k then g2.p m-1 else g2.p m;by_cases h:m∈j.nums.take k
   .rw[if_pos h,if_pos (aU _ h)]
   .rw[if_neg h,if_neg λh2=>(aZ.mp h2).elim h λh3=>e (aP.mp h3)]
 .rintro sq k m' H' ⟨u,rfl,rfl,hk2,C⟩ e;have:j.nums.take k=j.nums:=by
   have:=aO.mp e;rw[aA]at this;show bT this
  rw[this]at C;subst hy;show{_,rfl,(by decide:0<=2^20),.own λq hq=>?_};show SetP.at (C.fe hq (.list [])).tail 1 2 rfl rfl A6.toStF (A8 28) (by decide:10<=900) λc=>?_;have C2:=(C.fe hq (.list [])).f9 (a:=z.d) 2 (.aa (({j with nums:=[]}:JS).names {z with q:=q} x.a)) rfl;show .own (.ae []) (.inl rfl) λt ht=>?_;apply @ev _ _ _ _ _ Y _;show SetP.at (C2.fe ht (.ae [])).tail 2 3 rfl rfl A6.toStF (A8 29) (by decide:10<=900) λc=>?_;have C4:=(C2.fe ht (.ae [])).f9 (a:=z.d) 3 (.aa (({j with nums:=[]}:JS).names {z with q:=q,t:=t} x.a)) rfl;show AugP.add C4.tail 2 3 rfl rfl A6 (A8 31) rfl (by decide:10<=900) (λc k=>k) λc=>?_;have C5:=C4.f9 (a:=z.d) 3 (.aa (({j with nums:=[],ay:=j.ay+1}:JS).names {z with q:=q,t:=t} x.a)) rfl;show hk _ _ {z with q:=q,t:=t} rfl ((CH.rlose (l1:=[_,_,_,_]) (CH.rlose (l1:=[_,_,_,_]) C5)).cj ?_);show((fG (l₁:=[_,_]) (l₂:=[_,_])).trans (.append_left _ (.swap ..))).append_right l
theorem end_ok(C:CH H x s y (j.objs z x.a++l) g)(I:DI s (b+(grp g.V j.start j.nums).length))(R:Room g)(J:Jok j s.blocks)(hp:∀n∈j.nums,g.p n≠0)(h0:j.calls=0->∀H',CH H' x s y (j.objs z x.a++l) g->F.KX 52 H')
  (h1:j.calls≠0->¬ (j.calls=1/\j.nums≠[])->∀H',CH H' x s y (({j with calls:=j.calls-1}:JS).objs z x.a++l) g->K .none H')
  (hc:j.calls=1->j.nums≠[]->(exec s (grp g.V j.start j.nums)).1=true->∀H' u,HL H' ((exec s (grp g.V j.start j.nums)).2.objs {y with u:=u}++(({j with calls:=j.calls-1}:JS).objs z x.a++l))->F.KX 95 H')
  (hk:j.calls=1->j.nums≠[]->(exec s (grp g.V j.start j.nums)).1=false->∀H' u z',z'.a=z.a->CH H' x (exec s (grp g.V j.start j.nums)).2 {y with u:=u} (({j with nums:=[],calls:=j.calls-1,ay:=j.ay+1}:JS).objs z' x.a++l) ((g.b5 (grp g.V j.start j.nums)).minus j.nums)->K .none H') :
  WC F.u.u.u.u.u.u.u.u.u.u ↑173 [↑z.a] H K:=by
 show Aw 11 rfl rfl ?_;apply @evS Y _ _ _ _ _ _;show Aa.at C.tail 0 1 rfl rfl A6 (A8 30) rfl (bifB (λe=>?_) λe=>?_)
 .show He (F:=F.u.u.u.u.u.u.u.bd) F6 λH' ex=>h0 (beq_iff_eq.mp e) H' (C.ext ex)
 have e0:j.calls≠0:=λy=>bJ (e.symm.trans (beq_iff_eq.mpr y));show AugP.sub C.tail 0 1 rfl rfl A6 (A8 30) rfl (nle tt:10<=900) (λc k=>k) λc=>?_;apply @evS _ _ _ _ _ _ Y;have C1:=C.f9 (a:=z.d) 1 (.aa (({j with calls:=j.calls-1}:JS).names z x.a)) rfl;show Aa.at C1.tail 0 1 rfl rfl A6 (A8 30) rfl (bifB (λe=>?_) λe=>?_)
 .have e1:j.calls=1:=by have h:j.calls-1=0:=beq_iff_eq.mp e;show lin 0xeb78aeb948 9699623 tt h
  show Aa.at C1.tail 0 1 rfl rfl A6 (A8 28) rfl {(nle tt:0<=2^20),.data ?_};show W2.neL (o:=some z.q) (o':=none) (xs:=j.nums.map .int) (ys:=[]) {rfl,C1.tail.get 2 rfl} ⟨rfl,rfl⟩ Sms.nil λt ht=>?_;show bifB (λet=>?_) λet=>h1 e0 (λy=>?_) _ C1
  .have e2:j.nums≠[]:=λy=>ht.mp et (by rw[y];rfl);have J1:Jok {j with calls:=j.calls-1} s.blocks:={J.st,J.pl,J.en,J.each,J.nums,J.nd,J.len,by have:=J.calls;change 0<=j.calls-1/\j.calls-1<=1000;show lin 0x75caf67d1cf159e2d88 9666856 tt e1};show Av.at C1.tail 0 1 rfl rfl A6 (Ao 31 rfl) rfl (Se (F:=F.bd) C1 I R J1 hp (hc e1 e2) (hk e1 e2))
  .rw[ht.mpr λe3=>y.2 (eZ.mp e3)]at et;show aR et
 .show h1 e0 (λy=>by rw[y.1]at e;show aR e) _ C1
theorem CH.dv(C:CH H x s y R g)(i j:Nat)(e1:R[i]?=some (a,.inst c (some d)))(e2:R[j]?=some (d,.aa mm))(S:StF c)(T:AtF c nm)(hz:mm.length<=900)(hk:CH (H.set d (.aa (lput mm nm v))) x s y (R.set j (d,.aa (lput mm nm v))) g->k (H.set d (.aa (lput mm nm v)))):SetP H ↑a nm v k:=
 SetP.at C.tail i j e1 e2 S T hz λb=>hk (C.f9 j _ e2)
inductive PeJ(x:CA)(s:DS)(y:DA)(l:List (aK×AObj))(g:CG)(ns:List Int)(v:V)(nm:List (bY×aY))(sq:Sq)(k:Nat)(m:Loc)(H':AH):Prop
 |mk(u w:Option V)(hm:m=lc nm [some v,some (.list (ns.map .int)),u,w])(e:sq=.enum none (ns.map .int))(C:CH H' x s y l g)
theorem CH.bu(C:CH H x s y l g):∃R,HL H (s.objs y++R):=let ⟨_,h,_⟩:=C;{_,h.bu}
theorem Vv{k:Nat}(h:k<=xs.length):H0 xs none (some (k:Int)) none=xs.take k:=by
 have:=Jg (xs:=xs) (lo:=none) (hi:=some (k:Int)) (a:=0) (b:=k) (by
  unfold gN;have h1:¬ ((k:Int)<0):=lin 1102487617 225 tt;have h2:min (k:Int) xs.length=k:=pj (gf.mpr h);have h3:max 0 (k:Int)=k:=by rfl
  simp only[if_neg h1,h2];rfl)
 rw[this];rfl
structure Hd(j:JS)(blocks:Int)(ns:List Int):Prop where
 sm:Ha ns
 len:(ns.length:Int)<=j.pl
 nd:ns.Nodup
 ok:∀n∈ns,(0<=n/\n<blocks)/\¬ (j.start<=n/\n<j.start+(j.pl+1))
theorem Q4(C:CH H x s y (j.objs z x.a++l) g)(I:DI s b)(R:Room g)(J:Jok j s.blocks)(h:Hd j s.blocks ns)(hV:g.V j.start=Ca ns)(hk:∀H',CH H' x s y (j.objs z x.a++l) g->K (.list (ns.map .int)) H'):
  WC F.u.u.u.u.u.u.u.u ↑208 [↑z.a] H K:=by
 have hst:0<=j.start/\j.start<s.blocks:=by have:=J.st;have:=J.en;have:=J.pl;show{by show lin 26152283528 263 tt ‹_›,by show lin 0x3d98330d2a9caf60f6761eed3158 11559 tt ‹_› this}
 show Aw 16 rfl rfl ?_;apply @evS Y _ _ _ _ _ _;show Aa.at C.tail 0 1 rfl rfl A6 (A8 22) rfl (C.af (Ao 12 rfl) (λc=>rfl) (Aa.at C.tail 0 1 rfl rfl A6 (A8 23) rfl ?_));show Nn (F:=F.bd) C I.ok I.on hst R λH1 C1=>?_;rw[hV];show(let K0:=_;let K3:=_;(?_:@evL K0 _ _ K3));show Aa.at C1.tail 0 1 rfl rfl A6 (A8 25) rfl (Ml (F:=F.bd.u.u.u.u.u) h.sm h.len λH2 x2=>?_);show WS1.for rfl (PeJ x s y (j.objs z x.a++l) g ns ↑z.a (A9 (cst 14 11)).names) (λc c=>rfl) ?_ ?_ ?_ ?_
 .apply @WI _ _ _ _ Y;show WI.be Cs (.cons (λc c=>rfl) .nil) (Ah (i:=5) rfl) (.cons (λc c=>rfl) (exE (ex:=.loc 1) Al rfl (.nil (WIc.enum (o:=none) ⟨rfl,rfl⟩ {.enum,{none,none,rfl,rfl,(C1.ext x2)}}))))
 .rintro sq k m' H' ⟨u,w,rfl,rfl,C⟩;show eE
 .rintro sq k m' H' v ⟨u,w,rfl,rfl,C⟩ e;show(let K1:=_;let K5:=_;(?_:@WG _ K1 _ _ _ K5));apply Y;obtain⟨w',ew,rfl⟩:=bF.mp e;obtain⟨n,en,rfl⟩:=Bt ew;have hk':=(aI.mp en).1;obtain⟨n1,n2⟩:=h.ok n (aX en);show WG.nms (is:=[2,3]) rfl rfl rfl rfl ?_;show(exS (st:=(.ite (.or (.cmp .GtE 'D' (.attr (.attr (.attr 'A' "cache") "disk") "blocks")) (.or (.af 'A' "is_own" ['D']) (.cmp .In 'D' (.slice 'B' .none (.some 'C') .none)))) (.rs (.call ↑64 [(.con (.str "the head of the log"))])) .done .done)) (sl:=[some ↑z.a,some (.list (ns.map .int)),some (.int k),some (.int n)]) (KN:=λsl' H2=>PeJ x s y (j.objs z x.a++l) g ns ↑z.a (A9 (cst 14 11)).names (.enum none (ns.map .int)) (k+1) (lc (A9 (cst 14 11)).names sl') H2) rfl rfl rfl ?_).mono λm' H3 z9=>by obtain⟨sl',e,k⟩:=z9;show e▸k
  apply Y;obtain⟨D,hD⟩:=C.bu;show Aa.at C.tail 0 1 rfl rfl A6 (A8 22) rfl (C.attr (A8 4) (λc c=>rfl) (Aa.at hD 0 1 rfl rfl Aj (A8 12) rfl (bifD (λe2=>absurd n1.2 (nU.mpr e2)) λc=>?_)));apply @ev _ _ _ _ _ _ Y;show Av.at C.tail 0 1 rfl rfl A6 (Ao 25 rfl) rfl (Mk (F:=F.bd.u.u.u.u.u.u) C.tail n2 ?_);show .list none _ ⟨rfl,rfl⟩ (λy=>absurd y (dte tt)) (by rw[aA];have:=h.sm.1;show aC ‹_› (nle rfl)) ?_;rw[Vv (by simp only[aA];show mC ‹_›),<- pH];show W2.inL (o:=none) (xs:=(ns.take k).map .int) ⟨rfl,rfl⟩ (λv hv=>by obtain⟨j,c,e⟩:=aE.mp hv;show{j,e.symm}) λt ht=>?_;rw[S6]at ht;show bifB (λet=>?_) λc=>⟨_,_,rfl,rfl,C⟩;have nd:=h.nd;rw[<- gR k ns,Df en]at nd;show absurd rfl ((eC.mp nd).2.2 n (ht.mp et) n (.head _))
 .rintro sq k m' H' ⟨u,w,rfl,rfl,C⟩ e;show{_,rfl,hk _ C}
def recR(V:Int->Oct)(st:Int)(ns:List Int):List Row:=if ns=[] then [] else insR V true (st+1) ns++Gn st []
theorem Q5(C:CH H x s y (j.objs z x.a++l) g)(I:DI s (b+(recR g.V j.start ns).length))(R:Room g)(J:Jok j s.blocks)(h:Hd j s.blocks ns)(hV:g.V j.start=Ca ns)(h0:j.calls=0)(hj:j.nums=[])
  (hc:(exec s (recR g.V j.start ns)).1=true->∀H' u,HL H' ((exec s (recR g.V j.start ns)).2.objs {y with u:=u}++(j.objs z x.a++l))->F.KX 95 H')
  (hk:(exec s (recR g.V j.start ns)).1=false->∀H' u,CH H' x (exec s (recR g.V j.start ns)).2 {y with u:=u} (j.objs z x.a++l) (g.b5 (recR g.V j.start ns))->K (.list (ns.map .int)) H') :
  WC F.u.u.u.u.u.u.u.u.u ↑215 [↑z.a] H K:=by
 show Aw 17 rfl rfl ?_;show Aa.at C.tail 0 1 rfl rfl A6 (A8 30) rfl ?_;rw[h0];show Aa.at C.tail 0 1 rfl rfl A6 (A8 28) rfl {(by decide:0<=2^20),.data ?_};show W2.neL (o:=some z.q) (o':=none) (xs:=j.nums.map .int) (ys:=[]) {rfl,C.tail.get 2 rfl} ⟨rfl,rfl⟩ Sms.nil λt ht=>?_;have et:t=false:=by induction t using Bool.casesOn with
  |false=>rfl
  |true=>show absurd (by rw[hj];rfl) (ht.mp rfl)
 subst et;show Av.at C.tail 0 1 rfl rfl A6 (Ao 35 rfl) rfl (Q4 (F:=F.bd) (b:=b+(recR g.V j.start ns).length) C I R J h hV λH1 C1=>?_);show{(by decide:0<=2^20),.data ?_};show W2.neL (o:=none) (o':=none) (xs:=ns.map .int) (ys:=[]) ⟨rfl,rfl⟩ ⟨rfl,rfl⟩ Sms.nil λt ht=>?_;show bifB (λet=>?_) λet=>?_
 .have ne:ns≠[]:=λy=>ht.mp et (by rw[y];rfl);have er:recR g.V j.start ns=insR g.V true (j.start+1) ns++Gn j.start []:=if_neg ne;rw[er]at hc hk I;have st:=J.st;have en:=J.en;have hl:=h.len;have mem:∀p,some p∈insR g.V true (j.start+1) ns++Gn j.start []->(p.1∈ns/\∃n,p.2=g.V n)\/p=(j.start,Ca []):=λp hp=>by
   rcases aZ.mp hp with hp|hp
   .obtain⟨h1,k,c,e⟩:=Hi hp;show .inl ⟨h1,_,e⟩
   .show .inr (Cy hp)
  let r:Ru:={x:=x,y:=y,rest:=j.objs z x.a++l,rows:=insR g.V true (j.start+1) ns++Gn j.start [],s:=s,g:=g,b:=b,X:=F.KX 95};have ok:r.Ok:=⟨I,λq hq=>by
   induction q using Option.casesOn with
   |none=>show eE
   |some p=>
    rcases mem p hq with⟨h1,n,h2⟩|h1
    .show{(h.ok _ h1).1,h2▸C.len}
    .rw[h1];show{{st,by change j.start<s.blocks;show lin 0x3d98330d2a9cac3d02d3159 337121 tt en hl},Dt '#'},R,hc⟩
  show Av.at C1.tail 0 1 rfl rfl A6 (Ao 34 rfl) rfl (Go (F:=F.bd) (j:=j) (z:=z) (l:=l) (o:=none) (fl:=true) rfl ({[],rfl,y.u,rfl,C1}) ok rfl (λH' h=>⟨rfl,rfl⟩) (λk n e=>?_) λH3 a3=>?_)
  .have hk':=(aI.mp e).1;have h1:0<=j.start+1+(k:Int)/\j.start+1+(k:Int)<s.blocks:=by show{by show lin 0x616cc950352d89 8417 tt st,by show lin 0x1ecc1986954e561e825082d34a81a95a 370983 tt en hl hk'}
   change(0<=j.start+1+(k:Int)/\j.start+1+(k:Int)<s.blocks)/\r.St (j.start+1+k);show{h1,λp hp e2=>?_};rcases mem p hp with⟨h1,c⟩|h1
   .show absurd {by show lin 0x74a81a94cc3151 9473 tt e2,by show lin 0x187a09420ba540d4c56caa7315a 369927 tt hl hk' e2} (h.ok _ h1).2
   .rw[h1]at e2;lia
  show Av.at a3.tail 0 1 rfl rfl A6 (Ao 33 rfl) rfl {(by decide:0<=2^20),.data ?_};show Ck (F:=F.bd) (j:=j) (z:=z) (l:=l) (ns:=[]) (R:=[]) (o:=none) rfl a3 ok rfl ⟨rfl,rfl⟩ {'#',λc h=>absurd h aD} λH4 a4=>?_;obtain⟨u,e,C4⟩:=a4.done;show hk e _ u C4
 .have ne:ns=[]:=by
   clear I R J h hV h0 hj hc hk H1 C1;induction ns with
   |nil=>rfl
   |cons=>rw[ht.mpr (λy=>absurd y (oq _ _))]at et;show aR et
  have er:recR g.V j.start ns=[]:=if_pos ne;rw[er]at hk;show hk rfl _ y.u C1
theorem Nt{bl st pl each:Int}(C:CH H x s y l g)(so:s.Ok)(hs:0<=st/\st+(pl+1)<=s.blocks)(hp:1<=pl/\pl<=3)(hm:pl+4<=g.most)(he:1<=each/\each<=pl)(hk:∀z H',CH H' x s y (({start:=st,pl:=pl,each:=each,nums:=[],calls:=0,ay:=0}:JS).objs z x.a++l) g->K ↑z.a H'):
  WC F.u.u ↑218 [↑x.a,.int st,.int (pl+1),.int each] H K:=by
 apply @WC _ _ Y _ _;show WC.new Pt (dte tt) λa d ha hd ne=>Nk 5 rfl rfl ?_;have C0:=(C.fe hd (.aa [])).fe (a:=a) ((if_neg ne).trans ha) (.inst 218 (some d));obtain⟨D,hD⟩:=C0.bu;show bifD (λe=>absurd hs.1 (gA.mpr e)) λb=>bifD (λe=>by have e:pl+1<2:=e;lia) λb=>?_;show C0.attr (A8 4) (λb b=>rfl) (Aa.at hD 0 1 rfl rfl Aj (A8 12) rfl (bifD (λe=>absurd hs.2 (gA.mpr e)) λb=>?_));have S:=A6.toStF;show C0.dv 0 1 rfl rfl S (A8 22) (nle tt:0<=900) λC1=>?_;apply @evS _ _ _ _ Y _ _;show C1.dv 0 1 rfl rfl S (A8 23) (nle tt:1<=900) λC2=>?_;apply @evS _ _ Y _ _ _ _;show C2.dv 0 1 rfl rfl S (A8 24) (nle tt:2<=900) λC3=>?_;show C3.attr (v:=.int 16) (A8 6) (λb b=>rfl) (W2.fdiv (dte tt) (fD (nle tt)) (WC.min ?_));rw[if_neg (by change ¬ (3:Int)<pl+1-1;show lin 0xf60f65616f06faa51ec8 296 tt hp),Int.add_sub_cancel];show C3.dv 0 1 rfl rfl S (A8 25) (nle tt:3<=900) λC4=>?_;show Aa.at C4.tail 0 1 rfl rfl A6 (A8 25) rfl (C4.attr (v:=.int g.most) (A8 5) (λc e=>by rw[<- e];rfl) (WC.min ?_));rw[if_neg (by change ¬ g.most-4<pl;show lin 0x30b226cd069a64d950 263 tt hm)];show C4.dv 0 1 rfl rfl S (A8 26) (nle tt:4<=900) λC5=>?_;show Aa.at C5.tail 0 1 rfl rfl A6 (A8 26) rfl (bifD (λe=>by have e:pl<1:=e;lia) λb=>?_);show W2.isNone ?_;show C5.dv 0 1 rfl rfl S (A8 27) (nle tt:5<=900) λC6=>?_;show Aa.at C6.tail 0 1 rfl rfl A6 (A8 27) rfl (bifD (λb=>?_) λe=>absurd he.1 e);apply @ev _ _ _ _ _ Y _;show Aa.at C6.tail 0 1 rfl rfl A6 (A8 26) rfl ?_;apply @dk _ _ _ _ _ Y;change bif !decide (each<=pl) then _ else _;rw[decide_eq_true he.2];show{(nle tt:0<=2^20),.own λq hq=>?_};show(C6.fe hq (.list [])).dv 1 2 rfl rfl S (A8 28) (nle tt:6<=900) λC7=>?_;apply @evS _ _ _ _ _ _ Y;show .own (.ae []) (.inl rfl) λt ht=>?_;show(C7.fe ht (.ae [])).dv 2 3 rfl rfl S (A8 29) (nle tt:7<=900) λC8=>?_;show C8.dv 2 3 rfl rfl S (A8 30) (nle tt:8<=900) λC9=>?_;show C9.dv 2 3 rfl rfl S (A8 31) (nle tt:9<=900) λC10=>{rfl,hk ⟨a,d,q,t⟩ _ (C10.cj ?_)};show((fG (l₁:=[_,_]) (l₂:=[_,_])).trans (.append_left _ (.swap ..))).append_right l
end
section
variable{F:Fx}{ns:List (bY×aY)}{sl:List (Option V)}{H:AH}{KR:V->AH->Prop}{KN:Loc->AH->Prop}{K:Sq->AH->Prop}
noncomputable abbrev SJ:=Sq->Nat->List (Option V)->AH->Prop
noncomputable abbrev Lj (ns:List (bY×aY)) (J:SJ) (sq:Sq) (i:Nat) (m:Loc) (H:AH):Prop:=∃sl:List (Option V),(m=lc ns sl)/\J sq i sl H
theorem Vw{st:St}(J:SJ)(hk:F.keep=[])(hc:F.co=false)(hs:∀env x,bN iter env x=pure x)(t:trS ns gT 60 body=st)
  (h:WI F (lc ns sl) H iter λsq H1=>Fits sq target/\Lj ns J sq 0 (lc ns sl) H1) (hst:∀sq i sl' H',J sq i sl' H'->sq.stays H')
  (step:∀sq i sl' H' v,J sq i sl' H'->sq.at i=some v->WG F (lc ns sl') H' target v λm2 H2=>∃sl2,m2=lc ns sl2/\evS F ns KR st (J sq (i+1)) sl2 H2)
  (fin:∀sq i sl' H',J sq i sl' H'->sq.at i=none->KN (lc ns sl') H'):WS1 F KR (lc ns sl) H (.For target iter body [] p) KN:=by
 show WS1.for hc (Lj ns J) hs h (λsq i m H j=>?_) (λsq i m H v j e=>?_) λsq i m H j e=>?_
 .obtain⟨sl,rfl,j⟩:=j;show hst _ _ _ _ j
 .apply @WG _ _ _ _ _ Y;obtain⟨sl,rfl,j⟩:=j;show(step _ _ _ _ _ j e).mono λm2 H2 k=>?_;obtain⟨sl2,rfl,k⟩:=k;show(Jc Al hk hc 60 body sl2 H2 _ (t▸k)).mono λm3 H3 k3=>?_;obtain⟨sl3,rfl,k3⟩:=k3;show⟨sl3,rfl,k3⟩
 .obtain⟨sl,rfl,j⟩:=j;show fin _ _ _ _ j e
theorem WS1.f6{st:St}{is:List Nat}(J:SJ)(hk:F.keep=[])(hc:F.co=false)(hs:∀env x,bN iter env x=pure x)(t:trS ns gT 60 body=st)(ix:(nmI true ns [.Name x np]).map (·.1.2)=some is)
  (h:WI F (lc ns sl) H iter λsq H1=>Fits sq (.Name x np)/\Lj ns J sq 0 (lc ns sl) H1) (hst:∀sq i sl' H',J sq i sl' H'->sq.stays H')
  (step:∀sq i sl' H' v,J sq i sl' H'->sq.at i=some v->evS F ns KR st (J sq (i+1)) (sts sl' is [v]) H')
  (fin:∀sq i sl' H',J sq i sl' H'->sq.at i=none->KN (lc ns sl') H'):WS1 F KR (lc ns sl) H (.For (.Name x np) iter body [] p) KN:=by
 obtain⟨q,e1,rfl⟩:=bF.mp ix;show Vw J hk hc hs t h hst (λsq i sl' H' v j e=>?_) fin;apply Y;have k:=step _ _ _ _ _ j e;obtain⟨⟨l,is⟩,hq⟩:=q
 cases hq with
 |cons h1 h2 t2=>
  clear body p hs t hst fin j e e1 ix step;cases t2;show .name (Bc h1) (h2.imp id λh=>{h.1,hc}) (λk w h=>by rw[hk]at h;show nomatch h) ⟨_,rfl,k⟩
theorem WS1.forT{st:St}{is:List Nat}(J:SJ)(hk:F.keep=[])(hc:F.co=false)(hs:∀env x,bN iter env x=pure x)(t:trS ns gT 60 body=st)(ix:(nmI true ns ts).map (·.1.2)=some is)
  (h:WI F (lc ns sl) H iter λsq H1=>Fits sq (.Tuple ts kt pt)/\Lj ns J sq 0 (lc ns sl) H1) (hst:∀sq i sl' H',J sq i sl' H'->sq.stays H')
  (step:∀sq i sl' H' v,J sq i sl' H'->sq.at i=some v->tupK v is.length λws=>evS F ns KR st (J sq (i+1)) (sts sl' is ws) H')
  (fin:∀sq i sl' H',J sq i sl' H'->sq.at i=none->KN (lc ns sl') H'):WS1 F KR (lc ns sl) H (.For (.Tuple ts kt pt) iter body [] p) KN:=by
 show Vw J hk hc hs t h hst (λsq i sl' H' v j e=>?_) fin;apply @WG _ _ _ _ _ Y;have k:=step _ _ _ _ _ j e;clear iter body p hs t h hst step fin j e;cases v with
 |tup ws=>show WG.nms ix hk hc k.1 {_,rfl,k.2}
 |_=>show k.elim
theorem WI.mono(h:WI F m H it K)(n:∀sq H,K sq H->K' sq H):WI F m H it K':=λD t P s ok=>A4 (h D t P s ok) (λy s1 q=>A4 q (λz s2 p=>by
 obtain⟨sq,H,P,I,cs,e,k,it,ok⟩:=p;show{sq,H,P,I,cs,e,n _ _ k,it,ok}) λa a p=>p) λa a p=>p
theorem WI.ex{ex:Ex}(t:tr ns gT 50 false iter=ex)(h:ev F ns 60 ex sl H λv H1=>∃o xs,AsL H1 v o xs/\K (.vals o xs) H1):WI F (lc ns sl) H iter K:=.list (exE Al t h)
theorem WI.en{ex:Ex}{i:Nat}(hi:nix ns "enumerate"=some (i,.globalImplicit))(hs:F3 e)(t:tr ns gT 50 false e=ex)(h:ev F ns 60 ex sl H λv H1=>∃o xs,AsL H1 v o xs/\K (.enum o xs) H1):WI F (lc ns sl) H (.Call (.Name "enumerate" np) [e] [] pos) K:=
 WI.be Cs (.cons hs .nil) (Ah hi) (.cons hs ((exE Al t h).mono λv H1 k=>by apply Y;obtain⟨o,xs,as,k⟩:=k;show .nil (WIc.enum as k)))
theorem WI.rg{ex:Ex}{i:Nat}(hi:nix ns "range"=some (i,.globalImplicit))(hs:F3 e)(t:tr ns gT 50 false e=ex)(h:ev F ns 60 ex sl H λv H1=>∃n:Int,v=.int n/\(0<=n/\n<=2^40)/\K (.rng 0 1 n.toNat) H1):WI F (lc ns sl) H (.Call (.Name "range" np) [e] [] pos) K:=
 WI.be Ia (.cons hs .nil) (Ah hi) (.cons hs ((exE Al t h).mono λv H1 k=>by
  apply @WEs _ _ _ _ Y;obtain⟨n,rfl,hn,k⟩:=k;show .nil (WIc.d9 {bH '#' hn.1,hn.2} (by rw[Nm hn.1];show k))))
theorem WCo.n1{j:Nat}{ex:Ex}(J:Sq->Nat->List V->AH->Prop)(ok:okC ns sc=true)(ix:nix (cns ns sc.names) x=some (j,.local))(te:tr (cns ns sc.names) gT 50 false elt=ex)(hg:gs (csl ns sl sc.names) j=none)(hs:∀env x,bN iter env x=pure x)
  (h:WI F (lc ns sl) H iter λsq H1=>Fits sq (.Name x np)/\J sq 0 [] H1) (hst:∀sq i xs H',J sq i xs H'->sq.stays H'/\xs.length<=2^20)
  (step:∀sq i xs H' v,J sq i xs H'->sq.at i=some v->ev F.cm (cns ns sc.names) 60 ex (ss (csl ns sl sc.names) j v) H' λw H4=>J sq (i+1) (xs++[w]) H4)
  (fin:∀sq i xs H',J sq i xs H'->sq.at i=none->KL xs H'):WCo F (lc ns sl) H (.ListComp elt [{.Name x np,iter,[],0}] sc pos) iter sc KL:=
 .nm J ok ix hg hs h hst (λsq i xs H' v k e=>.nil (exE Al te (step sq i xs H' v k e))) fin
theorem WCo.f1{x:bY}{j:Nat}{ex cx:Ex}(J:Sq->Nat->List V->AH->Prop)(ok:okC ns sc=true)(ix:nix (cns ns sc.names) x=some (j,.local))(te:tr (cns ns sc.names) gT 50 false elt=ex)(tc:tr (cns ns sc.names) gT 50 true c=cx)(hg:gs (csl ns sl sc.names) j=none)(hs:∀env x,bN iter env x=pure x)
  (h:WI F (lc ns sl) H iter λsq H1=>Fits sq (.Name x np)/\J sq 0 [] H1) (hst:∀sq i xs H',J sq i xs H'->sq.stays H'/\xs.length<=2^20)
  (step:∀sq i xs H' v,J sq i xs H'->sq.at i=some v->ev F.cm (cns ns sc.names) 60 cx (ss (csl ns sl sc.names) j v) H' (evB λb H3=>bif b then ev F.cm (cns ns sc.names) 60 ex (ss (csl ns sl sc.names) j v) H3 λw H4=>J sq (i+1) (xs++[w]) H4 else J sq (i+1) xs H3))
  (fin:∀sq i xs H',J sq i xs H'->sq.at i=none->KL xs H'):WCo F (lc ns sl) H (.ListComp elt [{.Name x np,iter,[c],0}] sc pos) iter sc KL:=
 .nm J ok ix hg hs h hst (λsq i xs H' v k e=>WTs.mono (.one (exT Al tc (step sq i xs H' v k e))) λb H3 k=>by
  induction b using Bool.casesOn with
  |true=>show exE Al te k
  |false=>show k) fin
theorem WCo.n2{j j1:Nat}{ex:Ex}(J:Sq->Nat->List V->AH->Prop)(J1:Sq->Nat->Sq->Nat->List V->AH->Prop)(ok:okC ns sc=true)(ix:nix (cns ns sc.names) x=some (j,.local))(ix1:nix (cns ns sc.names) x1=some (j1,.local))(te:tr (cns ns sc.names) gT 50 false elt=ex)(hs:∀env x,bN it0 env x=pure x)(hs1:∀env x,bN it1 env x=pure x)
  (hg:gs (csl ns sl sc.names) j=none) (hg1:∀v,gs (ss (csl ns sl sc.names) j v) j1=none)
  (h:WI F (lc ns sl) H it0 λsq H1=>Fits sq (.Name x np)/\J sq 0 [] H1) (hst:∀sq i xs H',J sq i xs H'->sq.stays H') (hst1:∀sq i sq1 j xs H',J1 sq i sq1 j xs H'->sq1.stays H'/\xs.length<=2^20)
  (step:∀sq i xs H' v,J sq i xs H'->sq.at i=some v->WI F.cm (lc (cns ns sc.names) (ss (csl ns sl sc.names) j v)) H' it1 λsq1 H3=>Fits sq1 (.Name x1 np1)/\J1 sq i sq1 0 xs H3)
  (step1:∀sq i xs H' v,J sq i xs H'->sq.at i=some v->∀sq1 k xs H3 w,J1 sq i sq1 k xs H3->sq1.at k=some w->ev F.cm (cns ns sc.names) 60 ex (ss (ss (csl ns sl sc.names) j v) j1 w) H3 λw H5=>J1 sq i sq1 (k+1) (xs++[w]) H5)
  (mid:∀sq i sq1 k xs H',J1 sq i sq1 k xs H'->sq1.at k=none->J sq (i+1) xs H')
  (fin:∀sq i xs H',J sq i xs H'->sq.at i=none->KL xs H'):WCo F (lc ns sl) H (.ListComp elt [{.Name x np,it0,[],0},{.Name x1 np1,it1,[],0}] sc pos) it0 sc KL:=
 .two J J1 (Rq ok) hs hs1 h hst hst1 (λsq i xs H' v k e=>.name (Bc ix) (.inl rfl) (λa a h=>nomatch h) {Mb hg,step sq i xs H' v k e,λsq1 n ys H3 w k1 e1=>.name (Bc ix1) (.inl rfl) (λa a h=>nomatch h) {Mb (hg1 v),exE Al te (step1 sq i xs H' v k e sq1 n ys H3 w k1 e1)}}) mid fin
theorem WCo.t1{j j1 kt:Nat}{ex:Ex}(J:Sq->Nat->List V->AH->Prop)(ok:okC ns sc=true)(ix:nix (cns ns sc.names) x=some (j,.local))(ix1:nix (cns ns sc.names) x1=some (j1,.local))(te:tr (cns ns sc.names) gT 50 false elt=ex)(hs:∀env x,bN iter env x=pure x)
  (hg:gs (csl ns sl sc.names) j=none) (hg1:∀v,gs (ss (csl ns sl sc.names) j v) j1=none)
  (h:WI F (lc ns sl) H iter λsq H1=>Fits sq (.Tuple [.Name x np,.Name x1 np1] kt pt)/\J sq 0 [] H1) (hst:∀sq i xs H',J sq i xs H'->sq.stays H'/\xs.length<=2^20)
  (step:∀sq i xs H' v,J sq i xs H'->sq.at i=some v->∃a b,v=.tup [a,b]/\ev F.cm (cns ns sc.names) 60 ex (ss (ss (csl ns sl sc.names) j a) j1 b) H' λw H4=>J sq (i+1) (xs++[w]) H4)
  (fin:∀sq i xs H',J sq i xs H'->sq.at i=none->KL xs H'):WCo F (lc ns sl) H (.ListComp elt [{.Tuple [.Name x np,.Name x1 np1] kt pt,iter,[],0}] sc pos) iter sc KL:=
 .one J (Rq ok) hs h hst (λsq i xs H' v k e=>by
  show(let K3:=_;let K5:=_;(?_:@WG _ _ _ K3 _ K5));obtain⟨a,b,e9,k⟩:=step sq i xs H' v k e;simp only[e9];show WG.tup (.cons (λc c=>rfl) (.cons (λc c=>rfl) .nil)) rfl (.cons (λc c=>rfl) (.name (Bc ix) (.inl rfl) (λc c h=>nomatch h) (.cons (λc c=>rfl) (.name (Bc ix1) (.inl rfl) (λc c h=>nomatch h) (.nil {λy k w h=>Mb (hg1 a) y k w (Mb hg y k w h),.nil (exE Al te k)})))))) fin
theorem WCo.mono(h:WCo F m H e iter sc KL)(n:∀xs H,KL xs H->KL' xs H):WCo F m H e iter sc KL':=λD t P s p use Q ok hR=>h D t P s p use Q ok λacc C o xs H' P' s' k=>hR acc C o xs H' P' s' (n xs H' k)
theorem WS1.coL{j:Nat}(iy:nix ns y=some (j,.local))(hk:F.keep=[])(hl:(np.line==pos.line)=true)(hn:(sc.names.any λ(n,k)=>n==y&&(k==.local||k==.cell))=false)
  (h:WCo F (lc ns sl) H (.ListComp elt ({target,iter,ifs,0}::rest) sc pos) iter sc λxs H'=>KN (lc ns (ss sl j (.list xs))) H'):WS1 F KR (lc ns sl) H (.Assign [.Name y np] (.ListComp elt ({target,iter,ifs,0}::rest) sc pos) p) KN:=
 WS1.co (Ah iy) hl hn (λk w h=>by rw[hk]at h;show nomatch h) (WCo.mono h λxs H' k=>{_,Bc iy,k})
theorem WS1.coC{j:Nat}(iy:nix ns y=some (j,.cell))(hk:F.keep=[])(hc:F.co=false)
  (h:WCo F (lc ns sl) H (.ListComp elt ({target,iter,ifs,0}::rest) sc pos) iter sc λxs H'=>KN (lc ns (ss sl j (.list xs))) H'):WS1 F KR (lc ns sl) H (.Assign [.Name y np] (.ListComp elt ({target,iter,ifs,0}::rest) sc pos) p) KN:=
 WS1.coCell (Ah iy) hc (λk w h=>by rw[hk]at h;show nomatch h) (WCo.mono h λxs H' k=>{_,Bc iy,k})
theorem WS1.asgC{kt kv i j:Nat}{ky:aY}{ex:Ex}(hx:nix ns x=some (i,.cell))(hy:nix ns y=some (j,ky))(hyk:ky=.local\/ky=.cell)(hk:F.keep=[])(hc:F.co=false)(t:tr ns gT 50 false (.Tuple vs kv pv)=ex)(h:ev F ns 60 ex sl H λv H1=>tupK v 2 λws=>KN (lc ns (sts sl [i,j] ws)) H1):WS1 F KR (lc ns sl) H (.Assign [.Tuple [.Name x px,.Name y py] kt pt] (.Tuple vs kv pv) p) KN:=by
 intro D t' P s ok;have kx:=(ok.kd (Ah (sl:=sl) hx)).1;have hw:eQ [.Tuple [.Name x px,.Name y py] kt pt] (.Tuple vs kv pv) D.env=pure none:=by
  unfold eQ
  dsimp only
  split
  .rfl
  split
  .rfl
  show(if_pos ?_).trans rfl;have hz:∀f:cR->Option bY,f (.Name x px)=none->((pg f [.Name x px,.Name y py]).length !=2)=true:=λf hf=>by
   rw[gi hf];have h1:(pg f [.Name y py]).length<=1:=iD f _;show bne_iff_ne.mpr (lin 21375001745473 295 tt h1)
  show iG.mpr (.inl (hz _ ?_))
  dsimp only
  show kx▸if_neg bJ
 show Ce ((exE Al t h).seq ok λz s1 v H1 P1 k ok1=>?_) rfl hw;apply Y;induction v using V.casesOn with
 |tup ws=>
  have g:WG F (lc ns sl) H1 (.Tuple [.Name x px,.Name y py] kt pt) (.tup ws) KN:=by
   have nk:∀x k w,(x,k,w)∉F.keep:=λx k w h=>by rw[hk]at h;show nomatch h
   obtain⟨a,b,e⟩:=len2 k.1.symm;subst e;show WG.tup (.cons (λc c=>rfl) (.cons (λc c=>rfl) .nil)) rfl (.cons (λc c=>rfl) (.name (Bc hx) (.inr ⟨rfl,hc⟩) (nk x) (.cons (λc c=>rfl) (.name (Bc hy) (hyk.imp id λh=>⟨h,hc⟩) (nk y) (.nil k.2)))))
  show A4 (g D t' P1 s1 z ok1) (λc s2 p=>by obtain⟨m2,H2,P2,k2,ok2⟩:=p;show .next m2 H2 P2 k2 ok2) λc c p=>p
 |_=>show k.elim
end
section
variable{F:Fx}{H:AH}{K:V->AH->Prop}{ns:List Int}{k:Int}{V':Int->Oct}{st:Int}
structure W where
 st:Int->Int
 pl:Int->Int
 blocks:Int
 own:Int->List Int
 each:Int->Int
 held:Int->Int
 room:Int
noncomputable abbrev iL (l:List Int):V:=.list (l.map .int)
def W.val(w:W):V:=.aa [("starts",iL [w.st 0,w.st 1]),("places",iL [w.pl 0,w.pl 1]),("blocks",.int w.blocks),("own",.list [iL (w.own 0),iL (w.own 1)]),("each",iL [w.each 0,w.each 1]),("held",iL [w.held 0,w.held 1]),("room",.int w.room)]
noncomputable abbrev K2 (k:Int):Prop:=k=0\/k=1
theorem k2I{k:Int}(h:0<=k)(l:k<2):K2 k:=by
 obtain⟨n,rfl⟩:=fE h;show(lt2 (oE.mp l)).imp (congrArg i9) (congrArg i9)
theorem two_at{α:Type}{f:Int->α}(hk:K2 k):[f 0,f 1][k.toNat]?=some (f k):=by rcases hk with rfl|rfl<;>rfl
theorem K2.le(hk:K2 k):0<=k/\k<2^62:=by rcases hk with rfl|rfl<;>decide
theorem G2.two{f:Int->V}(hk:K2 k)(as:AsL H v o [f 0,f 1])(h:K (f k) H):G2 F v (.int k) H K:=.list as hk.le.1 hk.le.2 (two_at hk) h
def rowV:Row->V
 |some p=>.tup [.int p.1,.bytes p.2]
 |none=>.none
def D7(l:List Row):V:=.list (l.map rowV)
theorem AsL.d{xs:List V}:AsL H (.list xs) none xs:=⟨rfl,rfl⟩
theorem Sf:(((ns.length:Int)::ns).map word).flatten++bO (12-4*(ns.length:Int)).toNat 0=Ca ns:=by
 unfold Ca hw;rw[fB,om];congr 1;have:(12-4*(ns.length:Int)).toNat=4*(3-ns.length):=(lU 12 (4*ns.length)).trans (qS 4 3 _).symm;rw[this];generalize 3-ns.length=k
 induction k with
 |zero=>rfl
 |succ k ih=>rw[eH,gv,<- ih];rfl
theorem Uu(hs:Ha ns)(h0:ns≠[])(hk:K (.bytes (Ca ns)) H):WC F.u ↑576 [iL ns] H K:=by
 obtain⟨hl,hn⟩:=hs;have zl:(ns.map V.int).length=ns.length:=aA ..;have l1:1<=ns.length:=List.length_pos_iff.mpr h0;show Aw 52 rfl rfl ?_;show .blt "bytes.join" (Gm.bytes Cf Eh) (WE.co (WCo.n1 (j:=1) (ex:=.call (.type "bytes") [(.list ['B','a','a','a'])]) (λsq i xs H'=>(sq=.vals none (((ns.length:Int)::ns).map .int))/\(xs=((((ns.length:Int)::ns).take i).map word).map .bytes)/\(H'=H)) tt rfl rfl rfl (λa a=>rfl) ?_ (λsq i xs H' j=>?_) (λsq i xs H' v j e=>?_) λsq i xs H' j e=>?_))
 .apply @WI _ _ _ _ Y;show WI.ex (ex:=.bin .Add (.list [(.call (.builtin "len") ['A'])]) 'A') rfl (WC.bg .d (by rw[zl];lia) {(nle tt:1<=2^20),.data (W2.cat .d .d (by rw[zl];change 1+_<=_;show lin 641774000410049 263 tt hl) ?_)});rw[zl];show{none,_,.d,.vals,rfl,rfl,rfl}
 .obtain⟨rfl,rfl,rfl⟩:=j;show{trivial,?_};rw[aA,aA,dT,cK];show lin 0x91ec49a8829d042 9479 tt hl (dC _ _)
 .obtain⟨rfl,rfl,rfl⟩:=j;apply @ev _ _ _ _ _ _ Y;obtain⟨n,e1,rfl⟩:=Bt e;have hn':0<=n/\n<256:=by
   cases aX e1 with
   |head=>show lin 0x91ec2f6a01ca05940d81 8618241 tt hl
   |tail _ h=>show hn n h
  show{(by decide:4<=2^20),.data (WC.du (o:=none) (ns:=[n,0,0,0]) .d (λq hq=>?_) (show 4<=2^20 by decide) {rfl,?_,rfl})}
  .rcases aS.mp hq with e8|hq
   .subst e8;show hn'
   .rw[(gy (n:=3)).mp hq |>.2];decide
  .rw[cE,e1,aJ,aJ];rfl
 .apply @evL Y _ _ _;obtain⟨rfl,rfl,rfl⟩:=j;have ei:=aO.mp e;rw[aA]at ei;rw[bT ei];have wl:(((ns.length:Int)::ns).map word).flatten.length=4*(ns.length+1):=by rw[<- om,Hh,cK]
  show WC.join (bs:=((ns.length:Int)::ns).map word) .d (by rw[aA,cK];show gX ‹_›) (lin 0x48f625911da8829d042 10780647 tt hl wl) ?_;apply @ev _ _ _ _ _ _ Y;show WC.bg .d (by rw[zl];lia) (W2.mul (.of_left (nle tt)) (WC.b9 ?_ ?_ (W2.catY ?_ ?_)))
  .rw[zl];show lin 0x48f6164c88ed02cdd81 294887 ⋯ hl
  .rw[zl];show lin 0x66a644768166c1 262113 tt
  .rw[zl,wl,hZ];show lin 0x1d3223b40b374127521111da842 295 tt (bD (lin 0x48f6164c88ed02cdd81 294887 ⋯ hl))
  .rw[zl,Sf];show hk
variable{w:W}{m:List (Int×Oct)}{nv:V}
noncomputable abbrev keys (m:List (Int×Oct)):List Int:=m.map (·.1)
noncomputable abbrev aq (m:List (Int×Oct)) (n:Int):Oct:=(lget m n).getD Bo
def strd(V':Int->Oct)(st:Int)(ns:List Int):List (List Row):=[logR V' (st+1) ns,Gn st ns,insR V' false (st+1) ns,Gn st []]
inductive StJ(H:AH)(sq0:Sq)(f:Int->List Int->List Row)(st:Int)(ks:List Int)(T:List V)(sq:Sq)(i:Nat)(xs:List V)(H':AH):Prop
 |mk(e:sq=sq0)(hx:xs++(f (st+i) (ks.drop i)).map rowV=T)(hl:xs.length<=i)(hi:i<=ks.length)(p:H'=H)
theorem Sg(nd:(keys m).Nodup)(hn:n∈keys m):lget (Ax m) n=some (.bytes (aq m n)):=by
 obtain⟨p,hp,rfl⟩:=aE.mp hn;rw[Dq];unfold aq;rw[G5 nd hp];rfl
theorem Jh(hk:K2 k)(as:AsI H nv (Ax m))(hs:Ha (keys m))(h0:keys m≠[])(nd:(keys m).Nodup)(hK:K (.list ((strd (aq m) (w.st k) (keys m)).map D7)) H):WC F.u.u ↑581 [w.val,.int k,nv] H K:=by
 have zl:((Ax m).map λq=>V.int q.1)=(keys m).map .int:=by unfold Ax;rw[dB,dB];rfl
 have zr:(Ax m).length=(keys m).length:=by unfold Ax;rw[aA,aA]
 show Aw 53 rfl rfl ?_;apply @evS _ _ _ _ _ Y _;show WS1.asgC (i:=3) (j:=4) (ky:=.local) (ex:=.tup [.sub (.sub 'A' (.con (.str "starts"))) 'B',.call (.type "list") ['C']]) rfl rfl (.inl rfl) rfl rfl rfl ?_;apply @ev _ _ _ _ _ _ Y;show G2.aa (w:=iL [w.st 0,w.st 1]) .fro rfl (G2.two (f:=λk=>.int (w.st k)) hk .d ?_);apply @evL _ _ _ Y;show WC.listI as (lin 0x48f6258829d042 10503 tt hs.1 zr) {(by decide:2<=2^20),rfl,_,rfl,?_};rw[zl];apply @evS _ _ _ _ _ Y _;show WS1.coL (j:=5) rfl rfl tt rfl (WCo.t1 (j:=1) (j1:=2) (ex:=(.tup [(.bin .Add (.bin .Add 'E' 'b') 'B'),(.sub 'D' 'C')])) (StJ H (.enum none ((keys m).map .int)) (logR (aq m)) (w.st k+1) (keys m) ((logR (aq m) (w.st k+1) (keys m)).map rowV)) tt rfl rfl rfl (λa a=>rfl) rfl (λa=>rfl) ?_ (λsq i xs H' j=>?_) (λsq i xs H' v j e=>?_) λsq i xs H' j e=>?_)
 .show WI.en (i:=8) (ex:=.loc 4) rfl (λa a=>rfl) rfl {none,_,.d,.enum,rfl,by rw[dP,ci];rfl,bC _,bV _,rfl}
 .apply Y;obtain⟨rfl,hx,hl,hi,rfl⟩:=j;show{trivial,by lia}
 .obtain⟨rfl,hx,hl,hi,rfl⟩:=j;obtain⟨w',ew,rfl⟩:=bF.mp e;obtain⟨n,en,e9⟩:=Bt ew;rw[e9];show{_,_,rfl,G2.ae as (Sg nd (aX en)) {(by decide:2<=2^20),rfl,?_,?_,(aI.mp en).1,rfl}}
  .rw[<- hx,Df en,Kp,aH];rfl
  .rw[aV];show gX hl
 obtain⟨rfl,hx,hl1,hi,rfl⟩:=j;rw[Np e]at hx;show{_,rfl,?_};show WS1.coL (j:=6) rfl rfl tt rfl (WCo.n1 (j:=1) (ex:=(.tup ['B',(.sub 'C' 'B')])) (StJ H' (.vals none ((keys m).map .int)) (insR (aq m) false) (w.st k+1) (keys m) ((insR (aq m) false (w.st k+1) (keys m)).map rowV)) tt rfl rfl rfl (λa a=>rfl) ?_ (λsq i xs H' j=>?_) (λsq i xs H' v j e=>?_) λsq i ys H2 j e=>?_)
 .apply @WI _ _ _ _ Y;show WI.ex (ex:=.loc 4) rfl {none,_,.d,.vals,rfl,by rw[dP,ci];rfl,bC _,bV _,rfl}
 .apply Y;obtain⟨rfl,hx,hl,hi,rfl⟩:=j;show{trivial,by lia}
 .apply @ev _ _ _ _ _ _ Y;obtain⟨rfl,hx,hl,hi,rfl⟩:=j;obtain⟨n,en,rfl⟩:=Bt e;apply @ev _ _ _ _ Y _ _;show G2.ae as (Sg nd (aX en)) {(by decide:2<=2^20),rfl,?_,?_,(aI.mp en).1,rfl}
  .rw[<- hx,Df en,Kp,aH];rfl
  .rw[aV];show gX hl
 obtain⟨rfl,hy,hl2,hi2,rfl⟩:=j;have e':=aO.mp e;rw[g9 (by rwa [aA]at e')]at hy;show{_,rfl,{(by decide:1<=2^20),.data (W2.cat .d .d (by change xs.length+1<=_;lia) ?_)}};apply @evL _ _ _ Y;show Uu (F:=F.bd) hs h0 {(by decide:2<=2^20),{(by decide:2<=2^20),.data ?_}};show{(by decide:1<=2^20),.data (W2.cat .d .d (by change ys.length+1<=_;lia) ?_)};show WC.b9 '#' '#' {(by decide:2<=2^20),{(by decide:2<=2^20),.data {(nle tt:4<=2^20),.data ?_}}};rw[show xs++[.none]=_ from hx,show ys++[.none]=_ from hy];show hK
end
section
structure Bk where
 calls:Int->Int
 a8:Int->List (Int×Oct)
 a9:Int->List (List (Int×Oct))
 av:Int->Bool
 strides:Int->List (List Row)
structure BkA where
 a:aK
 c:aK
 n:aK
 s:aK
 w:aK
 t:aK
 nk:Int->aK
 sk:Int->aK
def stV(l:List (List (Int×Oct))):List V:=l.map λm=>.ae (Ax m)
def BkA.names(x:BkA):List (bY×V):=[("calls",.ref x.c),("noted",.ref x.n),("states",.ref x.s),("slow",.ref x.w),("strides",.ref x.t)]
def duo{α:Type}(f:Int->α):List α:=[f 0,f 1]
def Bk.objs(b:Bk)(x:BkA):List (aK×AObj):=[(x.a,.aa x.names),(x.c,.list (duo λk=>.int (b.calls k))),(x.n,.list (duo λk=>.ref (x.nk k))),(x.s,.list (duo λk=>.ref (x.sk k))),(x.w,.list (duo λk=>.bool (b.av k))),(x.t,.list (duo λk=>.list ((b.strides k).map D7))),
 (x.nk 0,.ae (Ax (b.a8 0))),(x.nk 1,.ae (Ax (b.a8 1))),(x.sk 0,.list (stV (b.a9 0))),(x.sk 1,.list (stV (b.a9 1)))]
variable{F:Fx}{H:AH}{K:V->AH->Prop}{l:List (aK×AObj)}{b:Bk}{x:BkA}{k:Int}{w:W}
theorem Nu{α β:Type}{f:Int->α}{g:α->β}{v:α}(hk:K2 k):(duo λi=>g (f i)).set k.toNat (g v)=duo λi=>g (upd f k v i):=by rcases hk with rfl|rfl<;>rfl
section
variable(h:HL H (b.objs x++l))(hk:K2 k)
include h hk
theorem Bk.bh:H (x.nk k)=some (.ae (Ax (b.a8 k))):=by
 rcases hk with rfl|rfl
 .show h.get 6 rfl
 .show h.get 7 rfl
theorem Bk.sget:H (x.sk k)=some (.list (stV (b.a9 k))):=by
 rcases hk with rfl|rfl
 .show h.get 8 rfl
 .show h.get 9 rfl
theorem Bk.nset(m:List (Int×Oct)):HL (H.set (x.nk k) (.ae (Ax m))) (({b with a8:=upd b.a8 k m}:Bk).objs x++l):=by
 rcases hk with rfl|rfl
 .show h.set 6 (.ae (Ax m)) rfl
 .show h.set 7 (.ae (Ax m)) rfl
theorem Bk.sset(m:List (List (Int×Oct))):HL (H.set (x.sk k) (.list (stV m))) (({b with a9:=upd b.a9 k m}:Bk).objs x++l):=by
 rcases hk with rfl|rfl
 .show h.set 8 (.list (stV m)) rfl
 .show h.set 9 (.list (stV m)) rfl
end
theorem Bk.sub{n:Nat}(h:HL H (b.objs x++l))(e:lget x.names nm=some ↑a)(k:K ↑a H):G2 F ↑x.a (.str nm) H K:=G2.aa (.own (h.get 0 rfl)) e k
theorem Bk.bz(h:HL H (b.objs x++l))(hk:K2 k)(q:K (.int (b.calls k)) H):G2 F ↑x.c (.int k) H K:=G2.two (f:=λk=>.int (b.calls k)) hk {rfl,h.get 1 rfl} q
theorem Bk.bc(h:HL H (b.objs x++l))(hk:K2 k)(q:K (.ref (x.nk k)) H):G2 F ↑x.n (.int k) H K:=G2.two (f:=λk=>.ref (x.nk k)) hk {rfl,h.get 2 rfl} q
theorem Bk.dp(h:HL H (b.objs x++l))(hk:K2 k)(q:K (.ref (x.sk k)) H):G2 F ↑x.s (.int k) H K:=G2.two (f:=λk=>.ref (x.sk k)) hk {rfl,h.get 3 rfl} q
theorem Bk.fp(h:HL H (b.objs x++l))(hk:K2 k)(q:K (.bool (b.av k)) H):G2 F ↑x.w (.int k) H K:=G2.two (f:=λk=>.bool (b.av k)) hk {rfl,h.get 4 rfl} q
theorem Bk.cz(h:HL H (b.objs x++l))(hk:K2 k)(q:K (.list ((b.strides k).map D7)) H):G2 F ↑x.t (.int k) H K:=G2.two (f:=λk=>.list ((b.strides k).map D7)) hk {rfl,h.get 5 rfl} q
def mrg(a c:List (Int×Oct)):List (Int×Oct):=lay [] (a++c)
theorem Si:∀{m:List (Int×Oct)},(Ax q).foldl (λd p=>lput d p.1 p.2) (Ax m)=Ax (lay m q):=by
 induction q with
 |nil=>show rfl
 |cons p r ih=>
  intro m;change(Ax r).foldl _ (lput (Ax m) p.1 (.bytes p.2))=_;rw[Ek,ih];rfl
theorem Mn(hz:a.length+c.length<=2^20)(h:K (.ae (Ax (mrg a c))) H):WC F (.type "dict") [.list (cf (Ax a)++cf (Ax c))] H K:=by
 have e:cf (Ax a)++cf (Ax c)=cf (Ax (a++c)):=by unfold cf Ax;simp only[aJ,aJ]
 rw[e];show WC.dictP .d (by unfold Ax;simp only[aA,aV];show hz) ?_;unfold b5;rw[show([]:List (Int×V))=Ax [] from rfl,Si];show h
def Bk.aw(b:Bk)(k:Int):Bk:={b with a9:=upd b.a9 k (b.a9 k++[mrg ((b.a9 k).getLast?.getD []) (b.a8 k)])}
theorem Ji(h:HL H (b.objs x++l))(hk:K2 k)(hs:b.a9 k≠[])(hz:((b.a9 k).getLast?.getD []).length<=100/\(b.a8 k).length<=100/\(b.a9 k).length<=100)(hK:∀H',HL H' ((b.aw k).objs x++l)->K .none H'):WC F.u ↑588 [↑x.a,.int k] H K:=by
 apply Y;obtain⟨st,e⟩:∃st,(b.a9 k).getLast?=some st:={_,List.getLast?_eq_some_getLast hs};rw[e]at hz;have el:(stV (b.a9 k)).getLast?=some (.ae (Ax st)):=by unfold stV;rw[List.getLast?_map,e];rfl
 have rl:∀{m:List (Int×Oct)},(Ax m).length=m.length:=aA ..;show Aw 54 rfl rfl ?_;apply @evS _ _ _ _ _ Y _;show Bk.sub (n:=0) h rfl (Bk.dp h hk ?_);show .blt "list.append" (Gm.list cI rfl {rfl,Bk.sget h hk}) ?_;show(let K0:=_;let K3:=_;(?_:@evL K0 _ _ K3));show WE.items (λc c=>rfl) rfl (Ah (i:=3) ⋯) Od (exE (ex:=.sub (.sub (.sub 'A' (.con (.str "states"))) 'B') (.un .USub 'b')) Al rfl ?_);apply @ev _ _ _ _ _ _ Y;show Bk.sub (n:=0) h rfl (Bk.dp h hk (W1.neg (G2.last {rfl,Bk.sget h hk} el {_,.fro,by rw[rl];show aC hz.1 '#',?_})));apply @ev _ _ _ _ _ _ Y;show WE.items (λc c=>rfl) rfl (Ah (i:=3) ⋯) Od (exE (ex:=.sub (.sub 'A' (.con (.str "noted"))) 'B') Al rfl ?_);show Bk.sub (n:=0) h rfl (Bk.bc h hk {_,.own (Bk.bh h hk),by rw[rl];show aC hz.2.1 '#',?_});have z1:st.length<=100:=hz.1;show W2.cat .d .d (by unfold cf;rw[aA,aA,rl,rl];lia) (Mn (by lia) ?_);show WC.append (Bk.sget h hk) (by unfold stV;rw[aA];show lin 0x7bd380a7034e049d043 329 tt hz) ?_;have e2:stV (b.a9 k)++[.ae (Ax (mrg st (b.a8 k)))]=stV (b.a9 k++[mrg st (b.a8 k)]):=by unfold stV;rw[aJ];rfl
 rw[e2];have:=Bk.sset h hk (b.a9 k++[mrg st (b.a8 k)]);unfold Bk.aw at hK;rw[e]at hK;show hK _ this
def Bk.over(b:Bk)(k:Int):Bool:=bif b.av k then (b.strides k).isEmpty else (b.a8 k).isEmpty
theorem Jj(h:HL H (b.objs x++l))(hk:K2 k)(hK:K (.bool (b.over k)) H):WC F.u ↑605 [↑x.a,.int k] H K:=by
 unfold Bk.over at hK;show Aw 57 rfl rfl ?_;show Bk.sub (n:=0) h rfl (Bk.fp h hk (bifB (λe=>?_) λe=>?_))<;>rw[e]at hK
 .show Bk.sub (n:=0) h rfl (Bk.cz h hk {(nle tt:0<=2^20),.data (W2.eqL (o':=none) (ys:=[]) .d .d Sms.nil λt ht=>?_)});have:t=(b.strides k).isEmpty:=by
   rw[j4,ht,eZ,List.isEmpty_iff]
  rw[this];show hK
 .show Bk.sub (n:=0) h rfl (Bk.bc h hk (.data (.ae []) (.inl rfl) (W2.eqD0 (.own (Bk.bh h hk)) .fro ?_)));have:(Ax (b.a8 k)).isEmpty=(b.a8 k).isEmpty:=by unfold Ax;rw[kr]
  rw[this];show hK
end
section
section
variable{F:Fx}{ns:List (bY×aY)}{sl:List (Option V)}{H:AH}{KL:List V->AH->Prop}
inductive FlJ0(S:List (List V))(KL:List V->AH->Prop)(sq:Sq)(i:Nat)(xs:List V)(H:AH):Prop
 |mk(e:sq=.vals none (S.map .list))(hx:xs=(S.take i).flatten)(k:KL S.flatten H)
inductive FlJ1(S:List (List V))(KL:List V->AH->Prop)(sq:Sq)(i:Nat)(sq1:Sq)(j:Nat)(xs:List V)(H:AH):Prop
 |mk(r:List V)(er:S[i]?=some r)(e:sq=.vals none (S.map .list))(e1:sq1=.vals none r)(hx:xs=(S.take i).flatten++r.take j)(k:KL S.flatten H)
theorem WCo.flat{elt it0 it1:cR}{j j1:Nat}{S:List (List V)}(ok:okC ns sc=true)(ix:nix (cns ns sc.names) x=some (j,.local))(ix1:nix (cns ns sc.names) x1=some (j1,.local))(te:tr (cns ns sc.names) gT 50 false elt=.loc j1)(t1:tr (cns ns sc.names) gT 50 false it1=.loc j)(hs:∀env x,bN it0 env x=pure x)(hs1:∀env x,bN it1 env x=pure x)
  (hg:gs (csl ns sl sc.names) j=none) (hg1:∀v,gs (ss (csl ns sl sc.names) j v) j1=none) (hz:S.flatten.length<=2^20)
  (h:WI F (lc ns sl) H it0 λsq H1=>Fits sq (.Name x np)/\sq=.vals none (S.map .list)/\KL S.flatten H1):WCo F (lc ns sl) H (.ListComp elt [{.Name x np,it0,[],0},{.Name x1 np1,it1,[],0}] sc pos) it0 sc KL:=by
 have lst:∀{i:Nat}{v:V},(S.map .list)[i]?=some v->∃r,S[i]?=some r/\v=.list r:=λ{i v}e=>by
  rw[bK,bF]at e;apply Y;obtain⟨r,h1,h2⟩:=e;show{r,h1,h2.symm}
 have nx:∀{i:Nat}{r:List V},S[i]?=some r->(S.take (i+1)).flatten=(S.take i).flatten++r:=λ{i r}e=>by
  simp only[cE,e,gd];show congrArg _ (bG r)
 have le:∀i:Nat,(S.take i).flatten.length<=S.flatten.length:=λi=>by
  have:=congrArg (λl:List (List V)=>l.flatten.length) (gR i S);simp only[gd,aV]at this;show lin 24365553487939 9443 tt this
 show .n2 (FlJ0 S KL) (FlJ1 S KL) ok ix ix1 te hs hs1 hg hg1 ?_ (λsq i xs H' k=>?_) (λsq i sq1 j xs H' k=>?_) (λsq i xs H' v k e=>?_) (λsq i xs H' v k0 e sq1 n ys H3 w k1 e1=>?_) (λsq i sq1 n xs H' k e=>?_) λsq i xs H' k e=>?_
 .show h.mono λsq H1 q=>{q.1,q.2.1,rfl,q.2.2}
 .obtain⟨rfl,a,a⟩:=k;trivial
 .apply Y;obtain⟨r,er,rfl,rfl,rfl,a⟩:=k;show{trivial,?_};have h1:=le (i+1);simp only[nx er,aV]at h1;simp only[aV,dT];show lin 0x13a2249218523127521044 337159 tt hz h1 (dC _ _)
 .apply @WI _ _ _ _ Y;obtain⟨rfl,rfl,k⟩:=k;obtain⟨r,er,e9⟩:=lst e;rw[e9];show WI.ex t1 (Dr Pu {none,r,.d,.vals,r,er,rfl,rfl,by simp only[p9,bG],k})
 .clear elt it0 it1 pos np np1 x x1 ok ix ix1 te t1 hs hs1 hg hg1 hz h lst nx le xs H' k0 e;obtain⟨r,er,rfl,rfl,rfl,k⟩:=k1;have e1:r[n]?=some w:=e1;show Dr Pu {r,er,rfl,rfl,by simp only[cE,e1,aH];rfl,k}
 .obtain⟨r,er,rfl,rfl,rfl,k⟩:=k;show{rfl,?_,k};simp only[nx er,bT (aO.mp e)]
 .obtain⟨rfl,rfl,k⟩:=k;have:=aO.mp e;rw[aA]at this;rw[bT this];show k
end
variable{F:Fx}{H:AH}{K:V->AH->Prop}{l:List (aK×AObj)}{b:Bk}{x:BkA}{k:Int}{w:W}
section
variable(h:HL H (b.objs x++l))(hk:K2 k)
include h hk
theorem Bk.cset(v:Int):HL (H.set x.c (.list ((duo λi=>.int (b.calls i)).set k.toNat (.int v)))) (({b with calls:=upd b.calls k v}:Bk).objs x++l):=by
 rw[Nu (g:=V.int) hk];show h.set 1 (.list (duo λi=>.int (upd b.calls k v i))) rfl
theorem Bk.wset(v:Bool):HL (H.set x.w (.list ((duo λi=>.bool (b.av i)).set k.toNat (.bool v)))) (({b with av:=upd b.av k v}:Bk).objs x++l):=by
 rw[Nu (g:=V.bool) hk];show h.set 4 (.list (duo λi=>.bool (upd b.av k v i))) rfl
theorem Bk.tset(v:List (List Row)):HL (H.set x.t (.list ((duo λi=>.list ((b.strides i).map D7)).set k.toNat (.list (v.map D7))))) (({b with strides:=upd b.strides k v}:Bk).objs x++l):=by
 rw[Nu (g:=λ(v:List (List Row))=>V.list (v.map D7)) hk];show h.set 5 (.list (duo λi=>.list ((upd b.strides k v i).map D7))) rfl
theorem Bk.nnew(ha:H a=none):HL ((H.set a (.ae [])).set x.n (.list ((duo λi=>.ref (x.nk i)).set k.toNat ↑a))) (({b with a8:=upd b.a8 k []}:Bk).objs {x with nk:=upd x.nk k a}++l):=by
 have h1:=(h.new ha (.ae [])).set 3 (.list (duo λi=>.ref (upd x.nk k a i))) rfl;rcases hk with rfl|rfl
 .show(HL.dc (l1:=[_,_,_,_,_,_,_]) h1).perm (perm_middle (l₁:=[_,_,_,_,_,_])).symm
 .show(HL.dc (l1:=[_,_,_,_,_,_,_,_]) h1).perm (perm_middle (l₁:=[_,_,_,_,_,_,_])).symm
end
theorem K2.lt(hk:K2 k):k<((2:Nat):Int):=by rcases hk with rfl|rfl<;>decide
noncomputable abbrev Kq:bY:="room"
noncomputable abbrev Bu:bY:="told"
noncomputable abbrev sArg:bY:="argument"
theorem cdp{α:Type}{x y:α}(e:c=true):(bif c then x else y)=x:=by rw[e];rfl
theorem cdn{α:Type}{x y:α}(e:c=false):(bif c then x else y)=y:=by rw[e];rfl
def dueB(w:W)(b:Bk)(k way n:Int)(o:Oct):Bk×bY×List Row:=
 bif way==0 then bif decide (w.pl k<((b.a8 k).length:Int)+(b.calls k+1)*w.each k) then (b,Kq,[]) else ({b with calls:=upd b.calls k (b.calls k+1)},Bu,[])
 else bif b.calls k==0 then (b,sArg,[])
 else bif way==1 then bif !(lget (b.a8 k) n).isSome&&(((b.a8 k).length:Int)==w.pl k) then (b,Kq,[]) else ({b with a8:=upd b.a8 k (lput (b.a8 k) n o)},Bu,[])
 else bif decide (0<b.calls k-1)||(b.a8 k).isEmpty then ({b with calls:=upd b.calls k (b.calls k-1)},Bu,[])
 else ({ ({b with calls:=upd b.calls k (b.calls k-1)}:Bk).aw k with a8:=upd b.a8 k []},Bu,(strd (aq (b.a8 k)) (w.st k) (keys (b.a8 k))).flatten)
theorem Uv:∀{ns:List Int}{st:Int},(logR V' st ns).length=ns.length+1:=by
 intro l9
 induction l9 with
 |nil=>intro z1;show rfl
 |cons x9 r ih=>intro z1;show congrArg (·+1) (ih)
theorem Oo:∀{ns:List Int}{st:Int},(insR V' fl st ns).length=ns.length+1:=by
 intro l9
 induction l9 with
 |nil=>intro z1;show rfl
 |cons x9 r ih=>intro z1;show congrArg (·+1) (ih)
theorem Hj{V':Int->Oct}{st:Int}{ns:List Int}:(strd V' st ns).flatten.length=2*ns.length+6:=by
 change(logR V' (st+1) ns++(Gn st ns++(insR V' false (st+1) ns++(Gn st []++[])))).length=_;simp only[aV,Uv,Oo];change ns.length+1+(2+(ns.length+1+2))=_;lia
structure BkOk(b:Bk)(k:Int):Prop where
 nd:(keys (b.a8 k)).Nodup
 sm:Ha (keys (b.a8 k))
 ca:0<=b.calls k/\b.calls k<=1000
 st:b.a9 k≠[]
 sl:((b.a9 k).getLast?.getD []).length<=100/\(b.a9 k).length<=100
theorem due_ok(h:HL H (b.objs x++l))(hk:K2 k)(B:BkOk b k)(hK:∀H' nk,HL H' ((dueB w b k way n o).1.objs {x with nk:=nk}++l)->K (.tup [.str (dueB w b k way n o).2.1,D7 (dueB w b k way n o).2.2]) H'):
  WC F.u.u.u ↑593 [w.val,↑x.a,.int k,.int way,.int n,.bytes o] H K:=by
 have rl:(Ax (b.a8 k)).length=(b.a8 k).length:=aA ..;have kl:(b.a8 k).length<=3:=by have:=B.sm.1;rwa [aA]at this
 have ri:(Ax (b.a8 k)).isEmpty=(b.a8 k).isEmpty:=by unfold Ax;rw[kr]
 have hK:∀r,dueB w b k way n o=r->∀H' nk,HL H' (r.1.objs {x with nk:=nk}++l)->K (.tup [.str r.2.1,D7 r.2.2]) H':=λr e=>e▸hK;show Aw 55 rfl rfl ?_;apply @evS _ _ _ _ _ Y _;show Bk.sub (n:=0) h rfl (Bk.bc h hk ?_);apply @evS _ _ _ _ _ Y _;show bifB (λe=>?_) λe=>?_<;>first|replace hK:=λr h=>hK r (bP (cdp e) h)|apply @evS _ _ _ _ Y _ _;replace hK:=λr h=>hK r (bP (cdn e) h)
 .show WC.lenI (.own (Bk.bh h hk)) (by lia) ?_;rw[rl];show(let K4:=_;let K6:=_;(?_:@ev _ _ _ _ K4 _ K6));show Bk.sub (n:=0) h rfl (Bk.bz h hk ?_);show G2.aa (w:=iL [w.each 0,w.each 1]) .fro rfl (G2.two (f:=λk=>.int (w.each k)) hk .d (W2.mul (.of_left (aC (Nl (n:=60) (by have:=B.ca;show lin 0x3d9f470ac2d9d52d02a0f047e849 11560 tt this (jm (lin 0x3d9f470ac2d9952d88 295 tt this)))) (nle tt))) ?_));show G2.aa (w:=iL [w.pl 0,w.pl 1]) .fro rfl (G2.two (f:=λk=>.int (w.pl k)) hk .d ?_);show(let K2:=_;let K5:=_;(?_:@dk _ _ K2 _ _ K5));show bifB (λe=>?_) λe=>?_<;>first|replace hK:=λr h=>hK r (bP (cdp e) h)|replace hK:=λr h=>hK r (bP (cdn e) h)
  .show{(by decide:0<=2^20),.data {(by decide:2<=2^20),hK _ rfl H x.nk h}}
  .show Bk.sub (n:=0) h rfl (G2.w2 (Bk.bz h hk (U3.list (h.get 1 rfl) hk.le.1 ?_ (show 2<=2^40 by decide) {(by decide:0<=2^20),.data {(by decide:2<=2^20),hK _ rfl _ x.nk (Bk.cset h hk _)}})));show hk.lt
 show Bk.sub (n:=0) h rfl (Bk.bz h hk (bifB (λe=>?_) λe=>?_))<;>first|replace hK:=λr h=>hK r (bP (cdp e) h)|replace hK:=λr h=>hK r (bP (cdn e) h)
 .show{(by decide:0<=2^20),.data {(by decide:2<=2^20),hK _ rfl H x.nk h}}
 have as:AsI H (.ref (x.nk k)) (Ax (b.a8 k)):=.own (Bk.bh h hk);show bifB (λe=>?_) λe=>?_<;>first|replace hK:=λr h=>hK r (bP (cdp e) h)|replace hK:=λr h=>hK r (bP (cdn e) h)
 .have put:∀{K':V->AH->Prop},(bif !(lget (b.a8 k) n).isSome&&(((b.a8 k).length:Int)==w.pl k) then (b,Kq,[]) else ({b with a8:=upd b.a8 k (lput (b.a8 k) n o)},Bu,([]:List Row)))=({b with a8:=upd b.a8 k (lput (b.a8 k) n o)},Bu,[])->evS F.u.u.bd (A9 (tst 30)).names K (.bq 'G' 'E' 'F' (.ret (.tup [(.con (.str "told")),(.list [])]))) (λc H'=>K .none H') [some w.val,some ↑x.a,some (.int k),some (.int way),some (.int n),some (.bytes o),some (.ref (x.nk k))] H:=λ{K'}ee=>by
   have hK:=hK _ ee;show U3.ae (Bk.bh h hk) (lin 0x588291ec49d042 10535 tt rl kl) ?_;apply @evS _ _ _ _ _ Y _;simp only[Ek];show{(by decide:0<=2^20),.data {(by decide:2<=2^20),hK _ x.nk (Bk.nset h hk _)}}
  show W2.notinI as ?_;simp only[Dq,Option.isSome_map];show bifB (λe2=>?_) λe2=>put (K':=K) (by rw[e2];rfl);apply @ev _ _ _ _ _ _ Y;show WC.lenI as (by lia) (G2.aa (w:=iL [w.pl 0,w.pl 1]) .fro rfl (G2.two (f:=λk=>.int (w.pl k)) hk .d ?_));rw[rl];show bifB (λe3=>?_) λe3=>put (K':=K) (by rw[e2,e3];rfl);have hK:=hK _ (cdp (aT.mpr ⟨e2,e3⟩));show{(by decide:0<=2^20),.data {(by decide:2<=2^20),hK H x.nk h}}
 .show Bk.sub (n:=0) h rfl (G2.w2 (Bk.bz h hk (W2.isub (U3.list (h.get 1 rfl) hk.le.1 ?_ (show 2<=2^40 by decide) ?_))))
  .show hk.lt
  have h1:=Bk.cset h hk (b.calls k-1);have ec:({b with calls:=upd b.calls k (b.calls k-1)}:Bk).calls k=b.calls k-1:=Ag;have hn:=Bk.bh h1 hk;show Bk.sub (n:=0) h1 rfl (Bk.bz h1 hk ?_);rw[ec];apply @ev _ _ _ _ _ Y _;show bifB (λe2=>?_) λe2=>?_
  .show{(by decide:0<=2^20),.data {(by decide:2<=2^20),hK _ (cdp (by rw[e2];rfl)) _ x.nk h1}}
  show .data (.ae []) (.inl rfl) (W2.eqD0 (.own hn) .fro ?_);simp only[ri];show bifB (λe3=>?_) λe3=>?_
  .show{(by decide:0<=2^20),.data {(by decide:2<=2^20),hK _ (cdp (by rw[e2,e3];rfl)) _ x.nk h1}}
  have hK:=hK _ (cdn (by rw[e2,e3];rfl));have n0:keys (b.a8 k)≠[]:=λy=>by rw[eZ.mp y]at e3;show aR e3
  show WS1.coL (j:=7) rfl rfl tt rfl (WCo.flat (j:=1) (j1:=2) (S:=(strd (aq (b.a8 k)) (w.st k) (keys (b.a8 k))).map (·.map rowV)) tt rfl rfl rfl rfl (λc c=>rfl) (λc c=>rfl) rfl (λc=>rfl) ?_ (WI.ex (ex:=.call ↑581 ['A','C','G']) rfl (Jh (F:=F.bd) hk (.own hn) B.sm n0 B.nd {none,_,.d,.vals,by rw[dB];rfl,_,rfl,?_})))
  .rw[<- ko,aA,Hj];have:=B.sm.1;show lin 0x247b0a75236c48e841 9191 tt this
  apply @evS _ _ _ _ _ Y _;show Ji (F:=F.bd.u) h1 hk B.st {B.sl.1,(aC ‹_› (nle rfl)),B.sl.2} λH2 h2=>?_;show .own (.ae []) (.inl rfl) λa ha=>?_;have h3:=HL.dc (l1:=[]) (h2.new ha (.ae []));show Bk.sub (n:=0) h3 rfl (U3.list (h3.get 2 rfl) hk.le.1 ?_ (show 2<=2^40 by decide) {(by decide:2<=2^20),?_})
  .show hk.lt
  show ko▸hK _ _ (Bk.nnew h2 hk ha)
variable{L:List (aK×AObj)}{bx:aK}{N:Int}
inductive BoxO(N:Int):AObj->Prop
 |mk(x y z:Int)(hx:0<=x/\x<10^120)(hy:0<=y/\y<2147483629)(hz:0<=z/\z<=N):BoxO N (.list [.int x,.int y,.int z])
inductive BH(H:AH)(bx:aK)(N:Int)(L:List (aK×AObj)):Prop
 |mk(o:AObj)(h:HL H (L++[(bx,o)]))(ok:BoxO N o)
theorem BH.tl(h:BH H bx N L):HL H L:=let ⟨_,h,_⟩:=h;h.fst
theorem Bg(B:BH H bx N L)(hN:N<=10^6)(hm:1<=many/\many<=1000)(h:∀d H',0<=d->d<many->BH H' bx (N+1) L->K (.int d) H'):WC F.u ↑554 [↑bx,.int many] H K:=by
 apply Y;obtain⟨o,hl,ok⟩:=B;obtain⟨x,y,z,hx,hy,hz⟩:=ok;show Rp {x,y,z,(hl.at_ (bx,_) (aG _ (.head _))),hx,hy,hz} hN hm λd H' d0 d1 B' ap=>?_;obtain⟨x',y',z',e',hx',hy',hz'⟩:=B';have nd:=hl.nd;rw[aJ]at nd;show h d H' d0 d1 {_,{λp hp=>?_,by rw[aJ];show nd},⟨x',y',z',hx',hy',hz'⟩};rcases aZ.mp hp with hp|hp
 .show(ap p.1 λy=>(eC.mp nd).2.2 _ (bZ hp) _ (.head _) y).trans (hl.at_ p (aU _ hp))
 .cases aP.mp hp;show e'
structure Deed where
 k:Int
 way:Int
 n:Int
 o:Oct
 az:bY
 rows:List Row
 fresh:List (Int×Oct)
 obs:List Int
def Deed.val(d:Deed):V:=.tup [.int d.k,.int d.way,.int d.n,.bytes d.o,.str d.az,D7 d.rows,.ae (Ax d.fresh),iL d.obs]
def Bj(w:W)(b:Bk)(k way:Int):Bk:=bif way==3&&(!(b.a8 k).isEmpty&&!b.av k) then ({b with av:=upd b.av k true,strides:=upd b.strides k (strd (aq (b.a8 k)) (w.st k) (keys (b.a8 k)))}:Bk).aw k else b
def Bk.cu(w:W)(b:Bk)(k way n:Int)(o:Oct)(az:bY)(rows:List Row):Deed:={k:=k,way:=way,n:=n,o:=o,az:=az,rows:=rows,fresh:=mrg (b.a8 0) (b.a8 1),obs:=[b.calls 0,b.calls 1,w.pl 0-(b.a8 0).length,w.pl 1-(b.a8 1).length]}
def Ez(w:W)(b:Bk)(k way:Int)(n:Int)(o:Oct):Prop:=bif way==1&&!b.av k then n∈w.own k/\o.length=16 else n=0/\o=[]
def Ga(w:W)(c:Bk)(k n:Int)(o:Oct):Bk×Deed:=({c with strides:=upd c.strides k ((c.strides k).drop 1)},({c with strides:=upd c.strides k ((c.strides k).drop 1)}:Bk).cu w k (7-(c.strides k).length) n o Bu ((c.strides k).take 1).flatten)
def Q6(w:W)(c:Bk)(k way n:Int)(o:Oct):Bk×Deed:=((dueB w c k way n o).1,(dueB w c k way n o).1.cu w k way n o (dueB w c k way n o).2.1 (dueB w c k way n o).2.2)
def Hb(w:W)(c:Bk)(k way n:Int)(o:Oct):Bk×Deed:=bif way==3||c.av k then Ga w c k n o else Q6 w c k way n o
def Au(w:W)(b:Bk)(k way n:Int)(o:Oct):Bk×Deed:=Hb w (Bj w b k way) k way n o
theorem take_1:H0 xs none (some 1) none=xs.take 1:=by
 induction xs with
 |nil=>rfl
 |cons a r=>show Vv (k:=1) (by simp only[cK];show gg _ _)
theorem drop_1:H0 xs (some 1) none none=xs.drop 1:=by
 induction xs with
 |nil=>rfl
 |cons a r=>
  have:=Jg (xs:=a::r) (lo:=some 1) (hi:=none) (a:=1) (b:=(a::r).length) (by
   unfold gN;have h2:min (1:Int) (a::r).length=1:=pj (gf.mpr (gg 1 _));simp only[Option.getD_none,show(1:Int) > 0 from by decide,if_true,show ¬ (1:Int)<0 by decide,if_false,h2];rfl)
  rw[this];show bT (by rw[ol];show bC _)
theorem sw_sub{a b c d:cR}{vs:List cR}{env:oT}:eQ [.Tuple [.Subscript a b p,.Subscript c d q] kt pt] (.Tuple vs kv pv) env=pure none:=by
 unfold eQ
 dsimp only
 split
 .rfl
 split
 .rfl
 show if_pos rfl
structure WOk(w:W):Prop where
 pl:∀k,K2 k->1<=w.pl k/\w.pl k<=3
 each:∀k,K2 k->1<=w.each k/\w.each k<=w.pl k
 own:∀k,K2 k->(w.own k).length=3/\∀n∈w.own k,0<=n/\n<w.blocks
 bl:2<=w.blocks/\w.blocks<=100
 st:∀k,K2 k->0<=w.st k/\w.st k+(w.pl k+1)<=w.blocks
 lg:∀k i n,K2 k->K2 i->n∈w.own k->¬ (w.st i<=n/\n<w.st i+(w.pl i+1))
 sep:∀n,w.st 0<=n/\n<w.st 0+(w.pl 0+1)->¬ (w.st 1<=n/\n<w.st 1+(w.pl 1+1))
 dis:∀n∈w.own 0,n∉w.own 1
 nd:∀k,K2 k->(w.own k).Nodup
 held:∀k,K2 k->w.held k∈w.own k
 room:w.pl 0+w.pl 1+3<=w.room/\w.room<=20
noncomputable abbrev ObJ (H:AH) (b:Bk) (w:W) (sq:Sq) (i:Nat) (xs:List V) (H':AH):Prop:=(sq=.rng 0 1 2)/\(xs=([.int (w.pl 0-(b.a8 0).length),.int (w.pl 1-(b.a8 1).length)]:List V).take i)/\(i<=2)/\(H'=H)
theorem Op(h:HL H (b.objs x++L))(hb:(b.a8 0).length<=3/\(b.a8 1).length<=3)
  (e:sl=[some ↑bx,some w.val,some ↑x.a,some (.int k),some (.int way),gs sl 5,some (.int n),some (.bytes o),some (.str az),some ↑x.n,gs sl 10,some (D7 rows)])
  (hK:K (b.cu w k way n o az rows).val H):evS F (A9 (tst 31)).names K (.set 12 (.call (.type "dict") [(.bin .Add (.raw (B0 [1,0] (stE 0 (Ad [3] (A7 (tst 31)))))) (.raw (B0 [1,1] (stE 0 (Ad [3] (A7 (tst 31)))))))]) (.ret (.tup ['D','E','G','H','I','L','M',(.bin .Add (.sub 'C' (.con (.str "calls"))) (.raw (B0 [7,1] (stE 0 (Ad [4] (A7 (tst 31)))))))]))) (λc H'=>K .none H') sl H:=by
 have rl:∀{m:List (Int×Oct)},(Ax m).length=m.length:=aA ..;generalize gs sl 5=u5 at e;generalize gs sl 10=u10 at e;subst e;show WE.items (λc c=>rfl) rfl (Ah (i:=20) ⋯) Od (exE (ex:=.sub 'J' 'a') Al rfl ((λhk q=>Bk.bc h hk q) (.inl rfl) {_,.own (Bk.bh h (.inl rfl)),by rw[rl];show aC (cF (by assumption)) (nle rfl),?_}));apply @ev _ _ _ _ _ _ Y;show WE.items (λc c=>rfl) rfl (Ah (i:=20) ⋯) Od (exE (ex:=.sub 'J' 'b') Al rfl ((λhk q=>Bk.bc h hk q) (.inr rfl) {_,.own (Bk.bh h (.inr rfl)),by rw[rl];show aC (cL (by assumption)) (nle rfl),?_}));show W2.cat .d .d (by unfold cf;simp only[aA,aA,rl,rl];lia) (Mn (by lia) ?_);apply @evS _ _ _ _ _ Y _;show Bk.sub (n:=0) h rfl ?_;apply @ev _ _ _ _ _ _ Y;show WE.co (WCo.n1 (j:=1) (ex:=(.bin .Sub (.sub (.sub 'E' (.con (.str "places"))) 'B') (.call (.builtin "len") [(.sub 'D' 'B')]))) (ObJ H b w) tt rfl rfl rfl (λc c=>rfl) ?_ (λsq i xs H' j=>?_) (λsq i xs H' v j e=>?_) λsq i xs H' j e=>?_)
 .show WI.rg (i:=21) (ex:=.con (.int 2)) rfl (λa a=>rfl) rfl {2,rfl,dte tt,.rng,rfl,rfl,bV _,rfl}
 .apply Y;obtain⟨rfl,rfl,hi,rfl⟩:=j;show{trivial,by rw[dT];show aC (p6 _ _) (by first|assumption|show cF (by assumption)|show cL (by assumption)|decide|show cr _|show aC (by assumption) (nle rfl))}
 .obtain⟨rfl,rfl,hi,rfl⟩:=j;obtain⟨hi2,rfl⟩:=Dd e;rw[fF,dH];have hk2:K2 (i:Int):=(lt2 hi2).imp (congrArg i9) (congrArg i9);show G2.aa (w:=iL [w.pl 0,w.pl 1]) .fro rfl (G2.two (f:=λk=>.int (w.pl k)) hk2 .d (Bk.bc h hk2 (WC.lenI (.own (Bk.bh h hk2)) ?_ ?_)))
  .rw[rl];rcases hk2 with e|e<;>rw[e]<;>(first|show aC (cF (by assumption)) (nle rfl)|show aC (cL (by assumption)) (nle rfl))
  .simp only[rl];rcases lt2 hi2 with rfl|rfl<;>show{rfl,rfl,nle tt,rfl}
 .obtain⟨rfl,rfl,hi,rfl⟩:=j;have he:=Ct e;obtain rfl:i=2:=cA hi he;show W2.cat {rfl,h.get 1 rfl} .d (show 4<=2^20 by decide) {(nle tt:8<=2^20),hK}
theorem BH.split(h:BH H bx N (b.objs x++l)):∃o,HL H (b.objs x++(l++[(bx,o)]))/\BoxO N o:=by
 apply Y;obtain⟨o,h,ok⟩:=h;show⟨o,h,ok⟩
theorem BH.join{o:AObj}(h:HL H (b.objs x++(l++[(bx,o)])))(ok:BoxO N o):BH H bx N (b.objs x++l):={o,by simp only[aH];show h,ok}
structure Xa(b:Bk):Prop where
 i:∀k,K2 k->BkOk b k
 s:∀k,K2 k->(b.strides k).length<=4/\∀r∈b.strides k,r.length<=100
theorem Q7{S:List (List Row)}:.list ((S.map (·.map rowV)).flatten)=D7 S.flatten:=by unfold D7;rw[<- ko]
def dEnd:St:=.set 12 (.call (.type "dict") [(.bin .Add (.raw (B0 [1,0] (stE 0 (Ad [3] (A7 (tst 31)))))) (.raw (B0 [1,1] (stE 0 (Ad [3] (A7 (tst 31)))))))]) (.ret (.tup ['D','E','G','H','I','L','M',(.bin .Add (.sub 'C' (.con (.str "calls"))) (.raw (B0 [7,1] (stE 0 (Ad [4] (A7 (tst 31)))))))]))
theorem Xb(B:BH H bx N (b.objs x++l))(hN:N+2<=10^6)(hk:K2 k)(wo:WOk w)(ok:Xa b)(ok1:Xa (Bj w b k way))(okD:∀n o,Ez w (Bj w b k way) k way n o->∀i,K2 i->((Au w b k way n o).1.a8 i).length<=3)(ht:0<=turn/\turn<=100)
  (hK:∀n o H' nk N',Ez w (Bj w b k way) k way n o->N'<=N+2->BH H' bx N' ((Au w b k way n o).1.objs {x with nk:=nk}++l)->K (Au w b k way n o).2.val H') :
  WC F.u.u.u.u ↑598 [↑bx,w.val,↑x.a,.int k,.int way,.int turn] H K:=by
 apply Y;obtain⟨bo,h,bok⟩:=B.split;have rl:∀{m:List (Int×Oct)},(Ax m).length=m.length:=aA ..;show Aw 56 rfl rfl ?_;apply @evS _ _ _ _ _ Y _;show WS1.assign (λg g=>rfl) (λg=>rfl) (λg g=>rfl) (exE (ex:=.tup ['a',.con (.bytes []),.con (.str "told"),.sub 'C' (.con (.str "noted"))]) Al rfl (Bk.sub (n:=0) h rfl {(nle tt:4<=2^20),WG.nms (is:=[6,7,8,9]) rfl rfl rfl rfl {_,rfl,?_}}));apply Y;have go:∀{H:AH},HL H ((Bj w b k way).objs x++(l++[(bx,bo)]))->evS F.u.u.u.bd (A9 (tst 31)).names K (.ite (.or (.cmp .Eq 'E' 'd') (.sub (.sub 'C' (.con (.str "slow"))) 'D')) (.set 10 (.sub (.sub 'C' (.con (.str "strides"))) 'D') (.raw (Ad [2,0,1] (A7 (tst 31))) (.bq (.sub 'C' (.con (.str "strides"))) 'D' (.slice 'K' (.some 'b') .none .none) .done))) (.ite (.cmp .Eq 'E' 'b') (.set 6 (.sub (.sub (.sub 'B' (.con (.str "own"))) 'D') (.bin .Mod (.bin .Add (.call (.builtin "len") [(.sub 'J' 'D')]) (.bin .FloorDiv (.call ↑554 ['A','d']) 'c')) 'd')) (.set 7 (.call (.type "bytes") [(.bin .Add (.bin .Mult (.list [(.call ↑554 ['A',(.con (.int 256))])]) 'p') (.list [(.bin .Add 'F' 'b')]))]) .done)) .done (.raw (Ad [2,1,1] (A7 (tst 31))) .done)) dEnd) (λg H'=>K .none H') [some ↑bx,some w.val,some ↑x.a,some (.int k),some (.int way),some (.int turn),some (.int 0),some (.bytes []),some (.str Bu),some ↑x.n] H:=λ{H}h=>by
  apply @evS _ _ _ _ _ Y _;have bi:=ok1.i k hk;have bs:=ok1.s k hk;unfold Au at hK okD;generalize Bj w b k way=c at h bi bs hK okD;unfold Hb at hK okD;have kl:(c.a8 k).length<=3:=by have:=bi.sm.1;rwa [aA]at this
  have hA:(way==3||c.av k)=true->evS F.u.u.u.bd (A9 (tst 31)).names K (.set 10 (.sub (.sub 'C' (.con (.str "strides"))) 'D') (.raw (Ad [2,0,1] (A7 (tst 31))) (.bq (.sub 'C' (.con (.str "strides"))) 'D' (.slice 'K' (.some 'b') .none .none) .done))) (evS F.u.u.u.bd (A9 (tst 31)).names K dEnd λg H'=>K .none H') [some ↑bx,some w.val,some ↑x.a,some (.int k),some (.int way),some (.int turn),some (.int 0),some (.bytes []),some (.str Bu),some ↑x.n] H:=λe=>by
   apply @evS _ _ _ _ _ Y _;show(let K4:=_;let K5:=_;(?_:@evS _ _ _ _ K4 K5 _));have hd:Ez w c k way 0 []:=by
    unfold Ez;have:(way==1&&!c.av k)=false:=by
     rcases iG.mp e with e|e
     .rw[beq_iff_eq.mp e];rfl
     .rw[e,Bool.not_true,lj]
    rw[this];show⟨rfl,rfl⟩
   have okD:=okD 0 [] hd;have hK:=hK 0 [];rw[e]at hK okD;show Bk.sub (n:=0) h rfl (Bk.cz h hk ?_);have sl:((c.strides k).map D7).length<=4:=by rw[aA];show bs.1
   show WS1.swp (is:=[4,11]) (ex:=.tup [.bin .Sub 'h' (.call (.builtin "len") ['K']),.raw (B0 [1] (stE 0 (Ad [2,0,1] (A7 (tst 31)))))]) ⋯ rfl (WC.bg .d (aC ‹_› (nle rfl)) ?_);rw[aA]at sl ⊢;show WE.co (WCo.flat (j:=1) (j1:=2) (S:=((c.strides k).take 1).map (·.map rowV)) tt rfl rfl rfl rfl (λg g=>rfl) (λg g=>rfl) rfl (λg=>rfl) ?_ (WI.ex (ex:=.slice 'K' .none (.some 'b') .none) rfl (.list none _ .d (λy=>nomatch y) (by rw[aA];lia) {none,_,.d,.vals,?_,(by decide:2<=2^20),rfl,_,rfl,?_})))
   .cases es:c.strides k with
    |nil=>show bV _
    |cons r t=>
     change(((r.map rowV)::[]).flatten).length<=_;rw[gZ,jI,bG,aA];show aC (bs.2 r (by rw[es];show .head _)) (nle tt)
   .rw[take_1,<- pH,dB];rfl
   show .list none _ .d (λy=>nomatch y) (by rw[aA];lia) ?_;rw[drop_1,<- List.map_drop];apply @ev _ _ _ _ _ _ Y;show Bk.sub (n:=0) h rfl (U3.list (h.get 5 rfl) hk.le.1 hk.lt (show 2<=2^40 by decide) ?_);have h1:=Bk.tset h hk ((c.strides k).drop 1);rw[Q7];show Op h1 {okD 0 (.inl rfl),okD 1 (.inr rfl)} rfl (hK _ x.nk N hd (by lia) (BH.join h1 bok))
  have hB:∀{H:AH}{bo:AObj}{N':Int}{n:Int}{o:Oct},(way==3||c.av k)=false->N'<=N+2->BoxO N' bo->Ez w c k way n o->HL H (c.objs x++(l++[(bx,bo)]))->evS F.u.u.u.bd (A9 (tst 31)).names K (.raw (Ad [2,1,1] (A7 (tst 31))) .done) (evS F.u.u.u.bd (A9 (tst 31)).names K dEnd λg H'=>K .none H') [some ↑bx,some w.val,some ↑x.a,some (.int k),some (.int way),some (.int turn),some (.int n),some (.bytes o),some (.str Bu),some ↑x.n] H:=λ{H bo N' n o}e hN' bok hd h=>by
   have okD:=okD n o hd;have hK:=hK n o;rw[e]at hK okD;show WS1.assign (λg g=>rfl) (λg=>rfl) (λg g=>rfl) (exE (ex:=.call ↑593 ['B','C','D','E','G','H']) Al rfl (due_ok (F:=F.bd) h hk bi λH2 nk h2=>WG.nms (is:=[8,11]) rfl rfl rfl rfl {_,rfl,?_}));show Op (x:={x with nk:=nk}) h2 {okD 0 (.inl rfl),okD 1 (.inr rfl)} rfl (hK _ nk N' hd hN' (BH.join (x:={x with nk:=nk}) h2 bok))
  have bt:∀{t u:Bool},(way==3)=t->c.av k=u->(way==3||c.av k)=(t||u):=λ{t u}e1 e2=>by simp only[e1,e2]
  show bifB (λe=>hA (by rw[e];rfl)) λe=>?_;apply @ev _ _ _ _ _ _ Y;show Bk.sub (n:=0) h rfl (Bk.fp h hk (bifB (λe2=>hA (by rw[e2,m9])) λe2=>?_));have e3:(way==3||c.av k)=false:=bt e e2;show bifB (λe4=>?_) λe4=>?_
  .have dr:∀{n o},n∈w.own k->o.length=16->Ez w c k way n o:=λh1 h2=>by unfold Ez;simp only[e4,e2];show⟨h1,h2⟩
   show G2.aa (w:=.list [iL (w.own 0),iL (w.own 1)]) .fro rfl (G2.two (f:=λk=>iL (w.own k)) hk .d (Bk.bc h hk (WC.lenI (.own (Bk.bh h hk)) (by rw[rl];show aC ‹_› (nle rfl)) ?_)));show Bg (F:=F.u.u.bd) (BH.join h bok) (lin 0x300651fb216cac01947e948 263 tt hN) (dte tt) λd H1 d0 d1 B1=>?_;show W2.fdiv (dte tt) (fD (dte tt)) (W2.mod '#' ?_);apply @G2 _ _ _ _ Y;simp only[rl];apply Y;obtain⟨f0,f1,f2,f3⟩:=fdm (x:=d) (m:=2) d0 '#';obtain⟨g0,g1,g,g⟩:=fdm (x:=((c.a8 k).length:Int)+d.fdiv 2) (m:=3) (lin 856958864461193 8417 tt f2) '#';have wn:=wo.own k hk;have hi:jw ((((c.a8 k).length:Int)+d.fdiv 2).fmod 3)<(w.own k).length:=by simp only[wn.1];show lin 0x1a3d95c5a0543d849 10503 tt g1 (bD g0)
   show G2.list (w:=.int (w.own k)[jw ((((c.a8 k).length:Int)+d.fdiv 2).fmod 3)]) .d g0 (qp g1 (dte tt)) (by simp only[bK,bE hi];rfl) ?_;have hm:=gU hi;generalize (w.own k)[jw ((((c.a8 k).length:Int)+d.fdiv 2).fmod 3)]=n at hm;show Bg (F:=F.u.u.bd) B1 (lin 0x600ca3f642d9580328fda948 263 ⋯ hN) (dte tt) λd2 H2 e0 e1 B2=>?_;apply @evL Y _ _ _;show{(by decide:1<=2^20),.data (W2.rep (show 0<1 by decide) (show 1*15<=2^20 by decide) (dte tt) {(by decide:1<=2^20),.data (W2.cat .d .d (show 15+1<=2^20 by decide) (WC.du (o:=none) (ns:=bO 15 d2++[turn+1]) ⟨rfl,rfl⟩ (λq hq=>?_) (show 16<=2^20 by decide) ?_))})}
   .rcases aZ.mp hq with hq|hq
    .rw[(gy.mp hq).2];show{‹_›,‹_›}
    .rw[aP.mp hq];show lin 0x7b305616cf6a01ca95952d88 9699623 tt ht
   apply Y;obtain⟨bo2,h2,bok2⟩:=B2.split;show hB e3 (lin 27631348459848 7 tt) bok2 (dr hm rfl) h2
  .show hB e3 (by lia) bok (by unfold Ez;rw[e4];show⟨rfl,rfl⟩) h
 have bw:∀{t:Bool},((way==3)=t)->Bj w b k way=bif t&&(!(b.a8 k).isEmpty&&!b.av k) then ({b with av:=upd b.av k true,strides:=upd b.strides k (strd (aq (b.a8 k)) (w.st k) (keys (b.a8 k)))}:Bk).aw k else b:=λ{t}e=>by unfold Bj;rw[e]
 show bifB (λe=>?_) λe=>go (by rw[bw e];show h);apply @ev _ _ _ _ _ _ Y;show Bk.bc h hk (.data (.ae []) (.inl rfl) (W2.neD0 (.own (Bk.bh h hk)) .fro ?_));rw[show(Ax (b.a8 k)).isEmpty=(b.a8 k).isEmpty by unfold Ax;rw[kr]];show bifB (λe1=>?_) λe1=>go (by rw[bw e,e1];show h);show Bk.sub (n:=0) h rfl (Bk.fp h hk (bifB (λe2=>?_) λe2=>go (by simp only[bw e,e1,e2];show h)));have bi:=ok.i k hk;have n0:keys (b.a8 k)≠[]:=λy=>by rw[eZ.mp y]at e1;rcases e1
 show WS1.assign (λg g=>rfl) (λg=>sw_sub) (λg g=>rfl) (exE (ex:=.tup [.con (.bool true),.call ↑581 ['B','D',.sub 'J' 'D']]) Al rfl (Bk.bc h hk (Jh (F:=F.u.bd) hk (.own (Bk.bh h hk)) bi.sm n0 bi.nd {(by decide:2<=2^20),?_})));show WG.tup (.cons (λg g=>rfl) (.cons (λg g=>rfl) .nil)) rfl (.cons (λg g=>rfl) (.sub (exE (ex:=.sub 'C' (.con (.str "slow"))) Al rfl (Bk.sub (n:=0) h rfl (exE (ex:=.loc 3) Al rfl (U3.list (h.get 4 rfl) hk.le.1 hk.lt (show 2<=2^40 by decide) ?_))))));have h1:=Bk.wset h hk true;show .cons (λg g=>rfl) (.sub (exE (ex:=.sub 'C' (.con (.str "strides"))) Al rfl (Bk.sub (n:=0) h1 rfl (exE (ex:=.loc 3) Al rfl (U3.list (h1.get 5 rfl) hk.le.1 hk.lt (show 2<=2^40 by decide) (.nil {_,rfl,?_}))))));have h2:=Bk.tset h1 hk (strd (aq (b.a8 k)) (w.st k) (keys (b.a8 k)));show Ji (F:=F.u.u.bd) h2 hk bi.st {bi.sl.1,?_,bi.sl.2} λH3 h3=>go (by simp only[bw e,e1,e2];show h3);have:=bi.sm.1;rw[aA]at this;show aC ‹_› (nle rfl)
variable{i:Int}{t:Nat}{n way:Int}{o:Oct}
structure BIk(w:W)(b:Bk)(k:Int)(t:Nat):Prop where
 nd:(keys (b.a8 k)).Nodup
 ow:∀p∈b.a8 k,p.1∈w.own k/\p.2.length=16
 len:((b.a8 k).length:Int)<=w.pl k
 ca:0<=b.calls k/\b.calls k<=t
 st:b.a9 k≠[]/\(b.a9 k).length<=2*t+1
 sk:∀m∈b.a9 k,Keys m w.blocks
 sr:(b.strides k).length<=4/\∀r∈b.strides k,r.length<=100
def BI(w:W)(b:Bk)(t:Nat):Prop:=∀k,K2 k->BIk w b k t
theorem BIk.small(wo:WOk w)(hk:K2 k)(h:BIk w b k t):Ha (keys (b.a8 k)):=by
 have pl:=wo.pl k hk;have:=h.len;show{by rw[aA];show lin 0x1ec1ecac2dd85a0523d849 10536 tt pl this,λn hn=>?_};obtain⟨p,hp,rfl⟩:=aE.mp hn;have:=(wo.own k hk).2 p.1 (h.ow p hp).1;have:=wo.bl;show{by show lin 0x7b4c5616cc2d90 295 tt ‹_›,by show lin 0x1ed31585b3d98330c2db500e150 11592 tt ‹_› this}
theorem BIk.last(h:BIk w b k t):Keys ((b.a9 k).getLast?.getD []) w.blocks:=by
 induction e:(b.a9 k).getLast? using Option.casesOn with
 |none=>show{.nil,λa h=>absurd h aD}
 |some m=>show h.sk m (List.mem_of_getLast? e)
theorem BIk.ok(wo:WOk w)(hk:K2 k)(ht:t<=45)(h:BIk w b k t):BkOk b k:=by
 have:=h.last.len wo.bl.2;have:=h.st.2;have:=h.ca;show{h.nd,h.small wo hk,by show{by show lin 0xf65025616cc2d89 295 tt this,by show lin 0x485bc0bd9409585b33e8e149 10535 tt ht this},h.st.1,‹_›,by show lin 0x90b7824d448e8829c042 304103 tt ht ‹_›}
theorem BI.ok2(wo:WOk w)(ht:t<=45)(h:BI w b t):Xa b:={λk hk=>(h k hk).ok wo hk ht,λk hk=>(h k hk).sr}
theorem BIk.more(h:BIk w b k t):BIk w b k (t+1):={h.nd,h.ow,h.len,{h.ca.1,by have:=h.ca;show lin 0x3d9409585b32950949 296 tt this},{h.st.1,by have:=h.st.2;show lin 0x9a891d10535123b51042 263 tt this},h.sk,h.sr}
theorem BIk.same(h:BIk w b i t)(e1:c.calls i=b.calls i)(e2:c.a8 i=b.a8 i)(e3:c.a9 i=b.a9 i)(e4:c.strides i=b.strides i):BIk w c i t:=
 {(e2▸h.nd),(e2▸h.ow),(e2▸h.len),(e1▸h.ca),(e3▸h.st),(e3▸h.sk),(e4▸h.sr)}
theorem BIk.mst(wo:WOk w)(hk:K2 k)(h:BIk w b k t):(b.a9 k++[mrg ((b.a9 k).getLast?.getD []) (b.a8 k)]≠[]/\(b.a9 k++[mrg ((b.a9 k).getLast?.getD []) (b.a8 k)]).length<=2*(t+1)+1)/\∀m∈b.a9 k++[mrg ((b.a9 k).getLast?.getD []) (b.a8 k)],Keys m w.blocks:=by
 show{{λy=>(nomatch (List.append_eq_nil_iff.mp y).2),by rw[aV];have:=h.st.2;change _+1<=_;show lin 0x135123a20a6a2476a2a842 263 tt this},λq hq=>?_};rcases aZ.mp hq with hq|hq
 .show h.sk q hq
 .rw[aP.mp hq];show Keys.lay (λp hp=>?_) {.nil,λa h=>absurd h aD};rcases aZ.mp hp with hp|hp
  .show h.last.k p hp
  .show{(wo.own k hk).2 p.1 (h.ow p hp).1,(h.ow p hp).2}
theorem Q8{st:Int}(h:ns.length<=3):(strd V' st ns).length<=4/\∀r∈strd V' st ns,r.length<=100:=by
 show{bC _,λr hr=>?_};have:=Hj (V':=V') (st:=st) (ns:=ns);have:=(l7 hr).length_le;show lin 0x91ec6b91b624746248829c043 11871207 tt h ‹_› this
theorem BI.av(wo:WOk w)(hk:K2 k)(h:BI w b t):BI w (Bj w b k way) (t+1):=λi hi=>by
 unfold Bj
 cases way==3&&(!(b.a8 k).isEmpty&&!b.av k) with
 |false=>show(h i hi).more
 |true=>
  rcases bB (i=k) with e|e
  .clear hk;subst e;have m:=(h i hi).more;show{m.nd,m.ow,m.len,m.ca,?_,?_,?_}
   .rw[cond_true,show(Bk.aw _ i).a9 i=_ from Ag];show((h i hi).mst wo hi).1
   .rw[cond_true,show(Bk.aw _ i).a9 i=_ from Ag];show((h i hi).mst wo hi).2
   .rw[cond_true,show(Bk.aw {b with av:=upd b.av i true,strides:=upd b.strides i (strd (aq (b.a8 i)) (w.st i) (keys (b.a8 i)))} i).strides i=_ from Ag];show Q8 ((h i hi).small wo hi).1
  .show(h i hi).more.same rfl rfl (Af e) (Af e)
theorem Uw{m:List (Int×Oct)}:(lput m n o).length<=m.length+1/\((lget m n).isSome=true->(lput m n o).length=m.length):=by
 induction m with
 |nil=>show{bC _,λh=>aR h}
 |cons q r ih=>
  obtain⟨j,v⟩:=q;rcases bB (j=n) with e|e
  .rw[Fi e];show{jS _,λa=>rfl}
  .rw[Fj e,De e];show{gX ih.1,λh=>congrArg (·+1) (ih.2 h)}
theorem BI.due(wo:WOk w)(hk:K2 k)(h:BI w b t)(hd:way=1->n∈w.own k/\o.length=16):BI w (dueB w b k way n o).1 (t+1):=λi hi=>by
 have hm:=(h i hi).more;have hb:=h i hi;unfold dueB;have cal:∀v:Int,(i=k->0<=v/\v<=(t+1:Nat))->BIk w {b with calls:=upd b.calls k v} i (t+1):=λv hv=>by
  show{hm.nd,hm.ow,hm.len,?_,hm.st,hm.sk,hm.sr};change 0<=upd b.calls k v i/\upd b.calls k v i<=_;by_cases e:i=k
  .subst e;show Ag▸hv rfl
  .rw[Af e];show hm.ca
 cases way==0 with
 |true=>
  cases decide (w.pl k<((b.a8 k).length:Int)+(b.calls k+1)*w.each k) with
  |true=>show hm
  |false=>show cal _ λe=>by rw[<- e];have:=hb.ca;show lin 0xf65025616cf652a1a95952d89 9699623 tt this
 |false=>
  simp only[cond_false]
  induction e0:b.calls k==0 using Bool.casesOn with
  |true=>show hm
  |false=>
   simp only[cond_false]
   induction e1:way==1 using Bool.casesOn with
   |true=>
    obtain⟨hn,ho⟩:=hd (beq_iff_eq.mp e1);simp only[cond_true]
    induction e2:!(lget (b.a8 k) n).isSome&&(((b.a8 k).length:Int)==w.pl k) using Bool.casesOn with
    |true=>show hm
    |false=>
     by_cases e:i=k
     .clear hk hd hi cal e0 e1;subst e;have en:({b with a8:=upd b.a8 i (lput (b.a8 i) n o)}:Bk).a8 i=lput (b.a8 i) n o:=Ag;simp only[cond_false];show{(en.symm▸S7 hm.nd),λp hp=>?_,?_,hm.ca,hm.st,hm.sk,hm.sr}
      .rw[en]at hp;rcases Kl hp with rfl|hp
       .show⟨hn,ho⟩
       .show hm.ow p hp
      .rw[en];have:=hb.len;have:=Uw (m:=b.a8 i) (n:=n) (o:=o)
       induction e3:(lget (b.a8 i) n).isSome using Bool.casesOn with
       |true=>rw[this.2 e3];show hb.len
       |false=>
        lia
     .show hm.same rfl (Af e) rfl rfl
   |false=>
    simp only[cond_false];clear hk hd;cases decide (0<b.calls k-1)||(b.a8 k).isEmpty with
    |true=>show cal _ λe=>by subst e;have:=hb.ca;lia
    |false=>
     simp only[cond_false];by_cases e:i=k
     .subst e;have c:=cal (b.calls i-1) λa=>by have:=hb.ca;lia
      have pl:=wo.pl i hi;have en:({ (Bk.aw {b with calls:=upd b.calls i (b.calls i-1)} i) with a8:=upd b.a8 i []}:Bk).a8 i=[]:=Ag;have es:({ (Bk.aw {b with calls:=upd b.calls i (b.calls i-1)} i) with a8:=upd b.a8 i []}:Bk).a9 i=_:=Ag;show{(en.symm▸.nil),(en.symm▸λa h=>(absurd h aD)),by rw[en];show cO (cF ‹_›),c.ca,(es▸(hb.mst wo hi).1),(es▸(hb.mst wo hi).2),hm.sr}
     .show hm.same (Af e) (Af e) (Af e) rfl
theorem BI.cu(wo:WOk w)(hk:K2 k)(h:BI w b t)(hd:Ez w (Bj w b k way) k way n o):BI w (Au w b k way n o).1 (t+2):=by
 have hs:=h.av (way:=way) wo hk;unfold Au Hb;generalize Bj w b k way=c at hs hd
 induction e:way==3||c.av k using Bool.casesOn with
 |true=>
   intro i hi;have m:=(hs i hi).more;simp only[cond_true];by_cases e:i=k
   .rw[<- e];have sr:=(hs i hi).sr;show{m.nd,m.ow,m.len,m.ca,m.st,m.sk,?_};rw[show(Ga w c i n o).1.strides i=_ from Ag];show{by rw[ol];show aC (sub_le _ _) (by first|assumption|show cF (by assumption)|show cL (by assumption)|decide|show cr _|show aC (by assumption) (nle rfl)),λr hr=>sr.2 r (mT hr)}
   .show m.same rfl rfl rfl (Af e)
 |false=>
  show BI.due wo hk hs λe1=>?_;unfold Ez at hd;obtain⟨e2,e3⟩:=gG.mp e;rw[e1,e3]at hd;show hd
theorem BI.len3(wo:WOk w)(h:BI w b t):∀k,K2 k->(b.a8 k).length<=3:=λk hk=>by
 have:=(h k hk).small wo hk;have:=this.1;rwa [aA]at this
end
section
variable{F:Fx}{H:AH}{K:V->AH->Prop}{l:List (aK×AObj)}{w:W}{bx:aK}{N:Int}
def bk0:Bk:={calls:=λ_=>0,a8:=λ_=>[],a9:=λ_=>[[]],av:=λ_=>false,strides:=λ_=>[]}
class inductive Chain(w:W):Bk->List Deed->Bk->Prop
 |nil(b:Bk):Chain w b [] b
 |snoc{b c:Bk}{D:List Deed}{k way n:Int}{o:Oct}(h:Chain w b D c)(hk:K2 k)(hw:0<=way/\way<=3)(hd:Ez w (Bj w c k way) k way n o):Chain w b (D++[(Au w c k way n o).2]) (Au w c k way n o).1
theorem bi0(wo:WOk w):BI w bk0 0:=λk hk=>by
 have:=wo.pl k hk;show{.nil,λa h=>(absurd h aD),(cO (cF ‹_›)),{bM _,bM _},{λh=>(absurd h (oq _ _)),bC _},λm h=>by cases aP.mp h;show{.nil,λa h=>(absurd h aD)},{bV _,λa h=>(absurd h aD)}}
def dObj(D:List Deed):AObj:=.list (D.map Deed.val)
structure PlM(H:AH)(w:W)(bx:aK)(N:Int)(x:BkA)(da:aK)(l:List (aK×AObj))(i:Nat)(D:List Deed)(b:Bk)(nk:Int->aK):Prop where
 B:BH H bx (N+4*i) (b.objs {x with nk:=nk}++((da,dObj D)::l))
 c:Chain w bk0 D b
 bi:BI w b (2*i)
 dl:D.length<=i
theorem BH.le{N':Int}(B:BH H bx N L)(h:N<=N'):BH H bx N' L:=by
 apply Y;obtain⟨o,h1,ok⟩:=B;obtain⟨x,y,z,hx,hy,hz⟩:=ok;show{_,h1,.mk x y z hx hy {hz.1,bH hz.2 h}}
theorem PlM.cu{x:BkA}(B:BH H bx M (b.objs {x with nk:=nk}++((da,dObj D)::l)))(c:Chain w bk0 D b)(bi:BI w b (2*i))(dl:D.length<=i)(hM:M+2<=N+4*((i+1:Nat):Int))(wo:WOk w)(hi:i<22)(hN:N<=10^5)(hk:K2 k)(hw:0<=way/\way<=3)(ht:0<=turn/\turn<=100)
  (hK:∀H' D' b' nk',PlM H' w bx N x da l (i+1) D' b' nk'->K .none H') :
  WC F.u.u.u.u ↑598 [↑bx,w.val,↑x.a,.int k,.int way,.int turn] H λv H1=>WC F.u.u.u.u (.builtin "list.append") [↑da,v] H1 K:=by
 apply @WC _ _ _ _ Y;show Xb (x:={x with nk:=nk}) B (lin 0x64888ed2a13485b2aadb0b00551fa6600ca3f642d951 345243624 tt hM hi hN) hk wo (bi.ok2 wo (lin 0x156d85216f048e841 9191 tt hi)) ((bi.av wo hk).ok2 wo (lin 0x2adb0a42de5448e841 9191 tt hi)) (λn o hd=>(bi.cu wo hk hd).len3 wo) ht λn o H1 nk1 N1 hd hN1 B1=>?_;obtain⟨bo,h1,bok⟩:=B1.split;show WC.append (h1.get 10 rfl) (by rw[aA];show lin 0x4882ab6c49d042 9479 tt dl hi) ?_;have h2:=h1.set 10 (.list (D.map Deed.val++[(Au w b k way n o).2.val])) rfl;have e:D.map Deed.val++[(Au w b k way n o).2.val]=(D++[(Au w b k way n o).2]).map Deed.val:=by simp only[aJ];rfl
 simp only[e]at h2 ⊢;show hK _ _ _ nk1 {(BH.join (x:={x with nk:=nk1}) (l:=(da,dObj (D++[(Au w b k way n o).2]))::l) h2 bok).le ?_,c.snoc hk hw hd,bi.cu wo hk hd,by rw[aV];show gX dl};show bH ‹_› ‹_›
end
section
set_option backward.match.sparseCases false
variable{F:Fx}{H:AH}{K:V->AH->Prop}
def Q9:Option cR->Option bY
 |some (.Constant (.str s) _ _)=>some s
 |_=>none
variable{ns:List (bY×aY)}{sl:List (Option V)}
theorem Vx(h:Q9 q=some s):∃a p,q=some (.Constant (.str s) a p):=by
 apply Y;induction q using Option.casesOn with
 |none=>contradiction
 |some e=>induction e using PySem.Expr.casesOn with
  |Constant c a p=>induction c using PySem.Const.casesOn with
   |str s'=>injection h with h;subst h;show⟨_,_,rfl⟩
   |_=>show fn h
  |_=>show fn h
theorem Xc:∀{kks:List (Option cR)}{es:List cR}{nms:List bY},kks.map Q9=nms.map some->nms.length=es.length->Disp kks es:=by
 intro l9
 induction l9 with
 |nil =>
  intro es nms hk hl;obtain rfl:=eZ.mp hk.symm;obtain rfl:=gz.mp hl.symm;show .nil
 |cons q kks ih =>
  intro es nms hk hl
  cases nms with
  |nil=>contradiction
  |cons nm nms=>
   induction es with
   |nil=>contradiction
   |cons e es=>
    obtain⟨k1,k2⟩:=ib hk;obtain⟨a,p,e9⟩:=Vx k1;show e9▸.cons (ih k2 (cS hl))
section
variable(f:Ex->AH->(V->AH->Prop)->Prop)
end
theorem wds(f:Ex->AH->(V->AH->Prop)->Prop)(hf:∀e x H K,tr ns gT 50 false e=x->f x H K->WE F (lc ns sl) H e K):∀{kks:List (Option cR)}{es:List cR}{nms:List bY}{H:AH}{K:List (bY×V)->AH->Prop},kks.map Q9=nms.map some->es.map (tr ns gT 50 false)=xs->nms.length=xs.length->evL f xs H (λvs H2=>K (nms.zip vs) H2)->WDs F (lc ns sl) H kks es K:=by
 induction xs with
 |nil=>
  intro kks es nms H K hk he hl h;obtain rfl:=eZ.mp he;obtain rfl:=gz.mp hl;obtain rfl:=eZ.mp hk;show .nil h
 |cons x xs ih=>
  intro kks es nms H K hk he hl h;obtain⟨e,es,rfl,e1,e2⟩:=mU.mp he
  cases nms with
  |nil=>contradiction
  |cons nm nms=>
   obtain⟨q,kks,rfl,k1,k2⟩:=mU.mp hk;obtain⟨a,p,e9⟩:=Vx k1;show e9▸.cons ((hf e x H _ e1 h).mono λv H1 k=>ih k2 e2 (cS hl) k)
theorem WE.dictX{nms:List bY}(x:∃kks es p,e=.Dict kks es p/\kks.map Q9=nms.map some/\es.map (tr ns gT 50 false)=xs)(hl:nms.length=xs.length/\xs.length<=15/\0<xs.length)
  (h:∀d,H d=.none->evL (λe=>ev F ns 60 e sl) xs (H.set d (.aa [])) λvs H2=>H2 d=some (.aa [])/\((nms.zip vs).map (·.1)).Nodup/\K ↑d (H2.set d (.aa (nms.zip vs)))):WE F (lc ns sl) H e K:=by
 apply Y;obtain⟨kks,es,p,rfl,hk,he⟩:=x;have el:es.length=xs.length:=by simp only[<- he,aA]
 show WE.f7 (Xc hk (hl.1.trans el.symm)) (λy=>by rw[y]at el;have:=hl.2.2;simp only[<- el]at this;show absurd this (dte tt)) ((el▸hl.2.1)) λd hd=>wds (λe=>ev F ns 60 e sl) (λe x H K t h=>exE Al t h) hk he hl.1 (h d hd)
variable{l:List (aK×AObj)}{w:W}{bx:aK}{N:Int}
theorem Kr(h:ev F ns 60 e sl H λv H1=>evS F ns KR k KN (ss sl i v) H1):evS F ns KR (.set i e k) KN sl H:=h
theorem bookE:∃kks es p,B0 [] (stE 0 (Ad [0] (A7 (tst 33))))=.Dict kks es p/\kks.map Q9=[ce "calls","noted","states","slow","strides"].map some/\es.map (tr (A9 (tst 33)).names gT 50 false)=[.list ['a','a'],.list [.b6,.b6],.list [.list [.b6],.list [.b6]],.list [.con (.bool false),.con (.bool false)],.list [.list [],.list []]]:=⟨_,_,_,rfl,rfl,rfl⟩
theorem Ux(B:BH H bx N L)(hK:∀x H',BH H' bx N (bk0.objs x++L)->K ↑x.a H'):ev F (A9 (tst 33)).names 60 (.raw (B0 [] (stE 0 (Ad [0] (A7 (tst 33)))))) sl H K:=by
 change WE F (lc (A9 (tst 33)).names sl) H (B0 [] (stE 0 (Ad [0] (A7 (tst 33))))) K;obtain⟨bo,h,bok⟩:=B;have z2:(2:Nat)<=2^20:=nle tt;have z1:(1:Nat)<=2^20:=nle tt
 with_reducible show WE.dictX bookE ?_ ?_
 .show{rfl,nle tt,nle tt}
 intro d hd;apply @evL _ _ _ Y;show{z2,.own λc hc=>?_};apply @evL _ _ _ Y;show .own (.ae []) (.inl rfl) λn0 hn0=>.own (.ae []) (.inl rfl) λn1 hn1=>{z2,.own λn hn=>?_};apply @evL Y _ _ _;show(let K2:=_;let K3:=_;(?_:@evL _ _ K2 K3));show .data (.ae []) (.inl rfl) {z1,.own λs0 hs0=>.data (.ae []) (.inl rfl) {z1,.own λs1 hs1=>{z2,.own λs hs=>?_}}};apply @evL _ _ Y _;show{z2,.own λw hw=>{bV _,.data {bV _,.data {z2,.own λt ht=>?_}}}};have h1:=((((((((((h.new hd (.aa [])).new hc (.list (duo λb=>.int 0))).new hn0 (.ae [])).new hn1 (.ae [])).new hn (.list [↑n0,↑n1])).new hs0 (.list [.ae []])).new hs1 (.list [.ae []])).new hs (.list [↑s0,↑s1])).new hw (.list (duo λb=>.bool false))).new ht (.list (duo λb=>.list [])));show{h1.get 9 rfl,(show(["calls","noted","states","slow","strides"]:List bY).Nodup by decide),hK {d,c,n,s,w,t,λk=>if k=0 then n0 else n1,λk=>if k=0 then s0 else s1} _ {bo,?_,bok}};have h2:=h1.set 9 (.aa [("calls",.ref c),("noted",.ref n),("states",.ref s),("slow",.ref w),("strides",.ref t)]) rfl;have pm:∀{t w s s1 s0 n n1 n0 c d:aK×AObj}{M:List (aK×AObj)},([t,w,s,s1,s0,n,n1,n0,c,d]++M).Perm ([d,c,n,s,w,t,n0,n1,s0,s1]++M):=λ{t w s s1 s0 n n1 n0 c d M}=>
  List.Perm.append_right M ((nR [t,w,s,s1,s0,n,n1,n0,c,d]).symm.trans (.cons _ (.cons _ ((dO [n0,n1] [n] [s0,s1,s,w,t]).trans (.cons _ ((fG (l₁:=[n0,n1,s0,s1]) (l₂:=[s,w,t]))))))))
 show h2.perm pm
end
section
variable{F:Fx}{H:AH}{K:V->AH->Prop}{l:List (aK×AObj)}{w:W}{bx:aK}{N:Int}
inductive PlJ(w:W)(bx:aK)(N:Int)(x:BkA)(da:aK)(l:List (aK×AObj))(many:Int)(c i0:Nat)(u6:Option Int)(sq:Sq)(i:Nat)(sl:List (Option V))(H:AH):Prop
 |mk(u5 u7 u8:Option V)(v6:Option V)(hs:sl=[some ↑bx,some w.val,some (.int many),some ↑x.a,some ↑da,u5,v6,u7,u8])(h6:u6≠none->∃k,v6=some (.int k)/\K2 k)(e:sq=.rng 0 1 c)(hi:i<=c)(D:List Deed)(b:Bk)(nk:Int->aK)(P:PlM H w bx N x da l (i0+i) D b nk)
theorem Vy{α:Type}{f:α->V}{p:α->Prop}[DecidablePred p]{l:List α}(h:l.all (λk=>decide (p k))=true)(hi:i<l.length):∃k,(l.map f)[i]?=some (f k)/\p k:=
 {l[i],by rw[bK,bE hi];rfl,dte (cT.mp h _ (gU hi))}
theorem plan_k{i:Nat}(h:i<6):∃k,([.int 0,.int 0,.int 1,.int 1,.int 0,.int 1]:List V)[i]?=some (.int k)/\K2 k:=Vy (l:=[0,0,1,1,0,1]) (p:=λk:Int=>k=0\/k=1) rfl h
theorem plan_w{i:Nat}(h:i<6):∃k:Int,([.int 0,.int 1,.int 0,.int 1,.int 1,.int 1]:List V)[i]?=some (.int k)/\0<=k/\k<=3:=
 {([0,1,0,1,1,1]:List Int)[i],by change(([0,1,0,1,1,1]:List Int).map V.int)[i]?=_;rw[bK,bE h];rfl,(dte tt:∀k∈([0,1,0,1,1,1]:List Int),0<=k/\k<=3) _ (gU h)}
theorem Xd(e:gs sl i=some (.int b))(h:K (.int (a-b)) H):ev F ns (n+2) (.bin .Sub (.con (.int a)) (.loc i)) sl H K:=by
 change ev F ns (n+1) (.loc i) sl H λw H2=>binV F .Sub (.int a) w H2 K;show Dr e h
theorem Vz(h:ev F ns n c sl H (evB λt H1=>bif t then ev F ns n a sl H1 K else ev F ns n b sl H1 K)):ev F ns (n+1) (.ife c a b) sl H K:=h
def plAp:St:=.expr (.af 'E' "append" [(.call ↑598 ['A','B','D','G','I','F'])]) .done
def plW:St:=.set 8 (.ife (.cmp .Lt 'F' 'g') (.sub (.list ['a','b','a','b','b','b']) 'F') (.raw (B0 [2] (stE 0 (Ad [2,0,2] (A7 (tst 33))))))) plAp
def plK:St:=.set 7 (.ife (.cmp .Gt (.sub (.sub 'D' (.con (.str "calls"))) 'G') 'a') (.list ['a','b','b','b','c','d']) (.list ['a','a','a','b','c'])) plW
def plB1:St:=.set 6 (.ife (.cmp .Lt 'F' 'g') (.sub (.list ['a','a','b','b','a','b']) 'F') (.call ↑554 ['A','c'])) plK
def plIt:St:=.ite (.not (.call ↑605 ['D','G'])) (.expr (.af 'E' "append" [(.call ↑598 ['A','B','D','G','d','F'])]) .done) .done .done
def plB2:St:=.set 6 (.bin .Mod (.bin .Add (.bin .Add 'G' 'b') (.call (.type "int") [(.cmp .Eq (.call ↑554 ['A','e']) 'b')])) 'c') (.set 6 (.ife (.call ↑605 ['D','G']) (.bin .Sub 'b' 'G') 'G') (.ite (.not (.call ↑605 ['D','G'])) (.expr (.af 'E' "append" [(.call ↑598 ['A','B','D','G','d','F'])]) .done) .done .done))
theorem Sj(B:BH H bx N L)(hN:0<=N/\N<=10^4)(hm:1<=many/\many<=13)(wo:WOk w)(hK:∀H' x da D b nk N',PlM H' w bx N' x da L (many.toNat+8) D b nk->N'<=N+1->K (.tup [↑da,↑x.s]) H'):WC F.u.u.u.u.u ↑612 [↑bx,w.val,.int many] H K:=by
 have zm:many.toNat<=13:=lin 0x1ec6ecac2ddc5a052dd849 11560 tt hm (bD (bH '#' hm.1));show Aw 58 rfl rfl (Kr ?_)
 with_reducible show Ux B ?_
 intro x H1 B1;apply @evS _ _ _ _ _ Y _;show{(nle tt:0<=2^20),.own λda hda=>?_};have P0:PlM (H1.set da (.list [])) w bx N x da L 0 [] bk0 x.nk:=by
  apply Y;obtain⟨bo,h,bok⟩:=B1.split;show{?_,.nil _,bi0 wo,bC _};show BH.le (BH.join (x:=x) (b:=bk0) (l:=(da,dObj [])::L) ((h.new hda (.list [])).perm (perm_middle (l₁:=bk0.objs x)).symm) bok) (lin 884301396060488 7 tt)
 show WS1.f6 (is:=[5]) (st:=plB1) (PlJ w bx N x da L many many.toNat 0 none) rfl rfl (λf f=>rfl) ⋯ rfl ?_ (λsq i sl H' j=>?_) (λsq i sl H' v j e=>?_) λsq i sl H' j e=>?_
 .show WI.rg (i:=9) (ex:=.loc 2) ⋯ (λa a=>rfl) rfl {many,rfl,by show lin 0xf63765616ef605023f4ac2d88 9699623 tt hm,.rng,_,⋯,none,none,none,none,rfl,λh=>absurd rfl h,rfl,bV _,[],bk0,x.nk,P0}
 .obtain⟨u5,u7,u8,v6,rfl,f,rfl,f⟩:=j;show eE
 .obtain⟨u5,u7,u8,v6,rfl,f,rfl,hi,D,b,nk,P⟩:=j;apply @evS _ _ _ _ _ Y _;obtain⟨hi2,rfl⟩:=Dd e;rw[gc]at P;have pc:∀{H:AH}{M:Int}{k way:Int},BH H bx M (b.objs {x with nk:=nk}++((da,dObj D)::L))->M<=N+4*i+2->K2 k->(0<=way/\way<=3)->∀{u7:Option V},evS F.u.u.u.u.bd (A9 (tst 33)).names K plAp (PlJ w bx N x da L many many.toNat 0 none (.rng 0 1 many.toNat) (i+1)) [some ↑bx,some w.val,some (.int many),some ↑x.a,some ↑da,some (.int (0+(i:Int)*1)),some (.int k),u7,some (.int way)] H:=λ{H M k way}B hM hk hw{u7}=>by
   apply @evS _ _ _ _ _ Y _;obtain⟨bo,h,f⟩:=B.split;apply @evS _ _ _ _ Y _ _;show .blt "list.append" (Gm.list cI ⋯ {rfl,h.get 10 rfl}) ?_;show PlM.cu (F:=F.bd) (x:=x) (N:=N) B P.c P.bi P.dl (lin 0x3242dc888ed0262b2444769509a42d951 263 tt hM) wo (lin 0x96ec4a10556d842 9479 tt zm hi2) (lin 0x7b00451fa5616cc01547e948 296 ⋯ hN) hk hw (lin 0x4b7625082f6624157681b324157681b582 310608161 rfl zm hi2) λH2 D2 b2 nk2 P2=>{_,_,_,_,rfl,λh=>absurd rfl h,rfl,hi2,D2,b2,nk2,by rw[gc];show P2}
  have pw:∀{H:AH}{M:Int}{k:Int}{ws:List Int},BH H bx M (b.objs {x with nk:=nk}++((da,dObj D)::L))->M<=N+4*i+1->K2 k->(1<=ws.length/\ws.length<=6)->(∀q∈ws,0<=q/\q<=3)->evS F.u.u.u.u.bd (A9 (tst 33)).names K plW (PlJ w bx N x da L many many.toNat 0 none (.rng 0 1 many.toNat) (i+1)) [some ↑bx,some w.val,some (.int many),some ↑x.a,some ↑da,some (.int (0+(i:Int)*1)),some (.int k),some (iL ws),u8] H:=λ{H M k ws}B hM hk hl hw=>by
   apply @evS _ _ _ _ _ Y _;show bifD (λe6=>?_) λe6=>?_
   .have e6:(0:Int)+i*1<6:=e6;obtain⟨q,q1,q2⟩:=plan_w (i:=i) (by lia);show{(by decide:6<=2^20),.data (G2.list .d (by lia) (by lia) (by rw[fF,dH,kb];show q1) (pc B (lin 0x65644476813159216e44476813151 263 tt hM) hk q2))}
   .apply @ev _ _ _ _ _ _ Y;show WE.sub (λf f=>rfl) (exE (ex:=.loc 7) Al rfl (exE (ex:=.call ↑554 ['A',.call (.builtin "len") ['H']]) Al ⋯ (WC.bg .d (by rw[aA];show aC (cL ‹_›) (nle rfl)) ?_)));rw[aA];show Bg (F:=F.u.u.u.bd) B (lin 0xf6008a3f4cc3592dd89420b2b2223b4098ac01947e952 13263437129 ⋯ hN zm hi2 hM) (lin 0xf49b61486ef67d1ca05940dc1 9699623 tt hl) λd H2 d0 d1 B2=>?_;have hd:d.toNat<ws.length:=lin 0xda08ae2d02a104a 10503 tt d1 (bD d0);show G2.list (w:=.int ws[d.toNat]) .d d0 (lin 0xf49b61486eda04ad0f847e949 10536 tt hl d1) (by rw[bK,bE hd];rfl) (pc B2 (lin 0xcac888ed0262b242dc888ed026a951 263 tt hM) hk (hw _ (gU hd)))
  have pk:∀{H:AH}{M:Int}{k:Int},BH H bx M (b.objs {x with nk:=nk}++((da,dObj D)::L))->M<=N+4*i+1->K2 k->evS F.u.u.u.u.bd (A9 (tst 33)).names K plK (PlJ w bx N x da L many many.toNat 0 none (.rng 0 1 many.toNat) (i+1)) [some ↑bx,some w.val,some (.int many),some ↑x.a,some ↑da,some (.int (0+(i:Int)*1)),some (.int k),u7,u8] H:=λ{H M k}B hM hk=>by
   apply @evS _ _ _ _ _ Y _;obtain⟨bo,h,f⟩:=B.split;apply @evS _ _ _ _ Y _ _;show Bk.sub (x:={x with nk:=nk}) (n:=0) h rfl (Bk.bz h hk (bifD (λf=>?_) λf=>?_))
   .show{(by decide:6<=2^20),.data (pw (ws:=[0,1,1,1,2,3]) B hM hk (dte tt) (dte tt))}
   .show{(nle tt:5<=2^20),.data (pw (ws:=[0,0,0,1,2]) B hM hk (dte tt) '#')}
  show bifD (λe6=>?_) λe6=>?_
  .have e6:(0:Int)+i*1<6:=e6;obtain⟨q,q1,q2⟩:=plan_k (i:=i) (by lia);show{(by decide:6<=2^20),.data (G2.list .d (by lia) (by lia) (by rw[fF,dH,kb];show q1) (pk P.B (lin 0x1959111da04b2223b40949 7 tt) q2))}
  .show Bg (F:=F.u.u.u.bd) P.B (lin 0xf6008a3f4ac2d92dd89420b00651fb2223b4094a 378535241 tt hN zm hi2) '#' λd H2 d0 d1 B2=>pk B2 (lin 0x32b2223b4096b2223b40949 7 tt) (by unfold K2;lia)
 .apply Y;obtain⟨u5,u7,u8,v6,rfl,f,rfl,hi,D,b,nk,P⟩:=j;have hi2:i=many.toNat:=cA hi (Ct e);subst hi2;rw[gc]at P;show{_,rfl,Bg (F:=F.u.u.u.bd) P.B (lin 0x1ec01147e9585b25bb0b00651fb2223b40949 10780649 tt hN zm) '#' λd H2 d0 d1 B2=>?_};have P1:PlM H2 w bx (N+1) x da L (many.toNat+0) D b nk:={B2.le (lin 0xc9111da4ac1a96b2223b40949 7 tt),P.c,P.bi,P.dl};show WS1.f6 (is:=[5]) (st:=plB2) (PlJ w bx (N+1) x da L many 8 many.toNat (some 0)) rfl rfl (λf f=>rfl) ⋯ ⋯ ?_ (λsq i sl H' j=>?_) (λsq i sl H' v j e=>?_) λsq i sl H' j e=>?_
  .show WI.rg (i:=9) (ex:=.con (.int 8)) ⋯ (λa a=>rfl) rfl {8,rfl,'#',.rng,_,rfl,u5,u7,u8,_,rfl,λf=>{d,rfl,k2I d0 d1},rfl,bV _,D,b,nk,P1}
  .obtain⟨u5,u7,u8,v6,rfl,f,rfl,f⟩:=j;show eE
  .obtain⟨u5,u7,u8,v6,rfl,h6,rfl,hi,D,b,nk,P⟩:=j;obtain⟨hi2,rfl⟩:=Dd e;obtain⟨k,rfl,hk⟩:=h6 (λy=>absurd y (aF _));show Bg (F:=F.u.u.u.bd) P.B (lin 0xf6008a3f4ac2d92dd8548d8980328fd9111da4841a94a 378535241 tt hN zm hi2) '#' λd H3 d0 d1 B3=>WC.intB (W2.mod '#' ?_);obtain⟨bo,h,f⟩:=B3.split;have hk1:K2 ((k+1+if (d==1) then 1 else 0).fmod 2):=by
    obtain⟨g0,g1,f,f⟩:=fdm (x:=k+1+if (d==1) then 1 else 0) (m:=2) (by unfold K2 at hk;split<;>lia) (dte tt);unfold K2;omega
   generalize (k+1+if (d==1) then 1 else 0).fmod 2=k1 at hk1 ⊢;have pd:∀{k:Int},K2 k->evS F.u.u.u.u.bd (A9 (tst 33)).names K plIt (PlJ w bx (N+1) x da L many 8 many.toNat (some 0) (.rng 0 1 8) (i+1)) [some ↑bx,some w.val,some (.int many),some ↑x.a,some ↑da,some (.int (0+(i:Int)*1)),some (.int k),u7,u8] H3:=λ{k}hk=>by
    show Jj (F:=F.u.u.u.bd) (x:={x with nk:=nk}) h hk ?_;show bifB (λe=>?_) λe=>{_,_,_,_,rfl,λf=>⟨k,rfl,hk⟩,rfl,hi2,D,b,nk,{B3.le (lin 0xc9111da4aa20d4b59111da4841a94a 7 tt),P.c,λq hq=>(P.bi q hq).more.more,iB P.dl}};show .blt "list.append" (Gm.list cI ⋯ {rfl,h.get 10 rfl}) ?_;show PlM.cu (F:=F.bd) (x:=x) (N:=N+1) B3 P.c P.bi P.dl (lin 0x64888ed2b2106a590b759111da4841a94a 7 tt) wo (lin 0x4b7615236255b721042 9479 tt zm hi2) (gB (cL ‹_›) '#') hk (dte tt) (by show{by lia,by show lin 0x291b0b3120abb40d81 263 tt hi2}) λH2 D2 b2 nk2 P2=>{_,_,_,_,rfl,λf=>⟨k,rfl,hk⟩,rfl,hi2,D2,b2,nk2,P2}
   show Kr (Vz ?_);show Jj (F:=F.u.u.u.bd) (x:={x with nk:=nk}) h hk1 ?_;show bifB (λe=>?_) λe=>Dr rfl (pd hk1);show Xd rfl (pd ?_);rcases hk1 with rfl|rfl
   .show .inr rfl
   .show .inl rfl
  .obtain⟨u5,u7,u8,v6,rfl,f,rfl,hi,D,b,nk,P⟩:=j;have hi2:i=8:=cA hi (Ct e);subst hi2;obtain⟨bo,h,f⟩:=P.B.split;show{_,rfl,Bk.sub (x:={x with nk:=nk}) (n:=0) h rfl {(nle tt:2<=2^20),hK _ x da D b nk _ P (bM _)}}
theorem WC.frz(h:WC F f vs H λv H1=>∃a o w,v=.ref a/\H1 a=some o/\Frz o w/\K w (H1.del a)):WC F f vs H K:=λD m t P s xs ok r=>A4 (h D m t P s xs ok r) (λx s1 p=>by
 obtain⟨v,H1,P1,⟨a,o,w,rfl,e,hp,k⟩,ok1⟩:=p;rw[ok1.top];obtain⟨ok2,r⟩:=ok1.pop.freeze e hp;show ok2.val k r) λb b p=>p
theorem Xe(e:H a=none):(H.set a o).del a=H:=by
 funext b;change(if b=a then none else if b=a then some o else H b)=H b;rcases bB (b=a) with h|h
 .rw[if_pos h,h,e]
 .rw[if_neg h,if_neg h]
theorem Nv:(H.set a o).set a o'=H.set a o':=by
 funext b;change(if b=a then some o' else if b=a then some o else H b)=if b=a then some o' else H b;rcases bB (b=a) with h|h
 .rw[if_pos h,if_pos h]
 .rw[if_neg h,if_neg h,if_neg h]
def wrV(v:List Oct):List Row->List Oct
 |[]=>v
 |some p::r=>wrV (v.set p.1.toNat p.2) r
 |none::r=>wrV v r
def ysL(v:List Oct):List V:=v.map .bytes
inductive WrJ(H:AH)(v:V)(rs:List Row)(fin:List Oct)(a:aK)(sq:Sq)(i:Nat)(sl:List (Option V))(H':AH):Prop
 |mk(u:Option V)(c:List Oct)(hs:sl=[some v,some (D7 rs),some ↑a,u])(e:sq=.vals none (rs.map rowV))(hf:wrV c (rs.drop i)=fin)(hl:c.length=fin.length)(p:H'=H.set a (.list (ysL c)))
theorem Dg:∀{r:List Row}{v:List Oct},(wrV v r).length=v.length
 |[],_=>rfl
 |some p::r,v=>(Dg (r:=r)).trans (kF ..)
 |none::r,v=>Dg (r:=r)
theorem Hk{rs:List Row}{i:Nat}(e:(rs.map rowV)[i]?=some v):∃r,rs[i]?=some r/\v=rowV r:=by
 rw[bK,bF]at e;apply Y;obtain⟨p,e1,e2⟩:=e;show{p,e1,e2.symm}
theorem Ii{rs:List Row}(as:AsL H v o (ysL vs))(hz:vs.length<=100)(hr:∀p,some p∈rs->0<=p.1/\p.1<vs.length)(hK:∀a,H a=none->K ↑a (H.set a (.list (ysL (wrV vs rs))))):WC F.u ↑619 [v,D7 rs] H K:=by
 show Aw 59 rfl rfl ?_;have zl:(ysL vs).length=vs.length:=aA ..;show WC.listLO as (lin 686256453963842 10503 tt hz zl) λa ha=>?_;apply @evS _ _ _ _ _ Y _;show WS1.f6 (is:=[3]) (st:=.ite (.cmp .IsNot 'D' (.con .none)) (.bq 'C' (.sub 'D' 'a') (.sub 'D' 'b') .done) .done .done) (WrJ H v rs (wrV vs rs) a) rfl rfl (λb b=>rfl) rfl rfl ?_ (λsq i sl H' j=>?_) (λsq i sl H' w j e=>?_) λsq i sl H' j e=>?_
 .show WI.ex (ex:=.loc 1) rfl {none,_,.d,.vals,_,⋯,none,vs,rfl,rfl,rfl,Dg.symm,rfl}
 .obtain⟨u,c,rfl,rfl,hf,hl,rfl⟩:=j;trivial
 .apply @evS _ _ _ _ Y _ _;obtain⟨u,c,rfl,rfl,hf,hl,rfl⟩:=j;apply @evS _ _ _ _ _ Y _;obtain⟨r,er,rfl⟩:=Hk e;rw[Df er]at hf;apply @evS _ _ _ _ _ _ Y;simp only[Dg]at hl;clear e;induction r using Option.casesOn with
  |none=>show W2.b8 {_,c,rfl,rfl,hf,hl.trans Dg.symm,rfl}
  |some p=>
   have hp:=hr p (aX er);show W2.b8 (G2.tup (w:=.bytes p.2) (dte tt) (dte tt) rfl (G2.tup (w:=.int p.1) (dte tt) (dte tt) rfl ?_));show U3.list (if_pos rfl) hp.1 (by unfold ysL;rw[aA];show lin 0xb105eda08ac2d9b4094a 11592 tt hl hp) (by unfold ysL;rw[aA];show lin 0x2702588290a047e842 10503 tt hz hl) {_,c.set p.1.toNat p.2,rfl,rfl,hf,by rw[kF];show hl.trans Dg.symm,?_};rw[Nv];unfold ysL;rw[<- m7]
 .obtain⟨u,c,rfl,rfl,hf,hl,rfl⟩:=j;have e':=aO.mp e;rw[g9 (by rwa [aA]at e')]at hf;show{_,rfl,?_};rw[show c=_ from hf];show hK a ha
theorem Qa{o:Option aK}{vs:List Oct}{rs:List Row}(as:AsL H v o (ysL vs))(hz:vs.length<=100)(hr:∀p,some p∈rs->0<=p.1/\p.1<vs.length)(hK:K (.list (ysL (wrV vs rs))) H):WC F.u ↑619 [v,D7 rs] H K:=
 WC.frz (Ii as hz hr λa ha=>{a,_,_,rfl,if_pos rfl,.list,by rw[Xe ha];show hK})
theorem Jk{s:DS}{fl:Bool}(h:HL H (s.objs x++l))(hc:0<=c)(hK:∀H',HL H' ((bif fl then {s with ax:=some (s.ag+c)} else {s with last:=some (s.writes+c)}:DS).objs x++l)->K .none H'):WC F.u.u ↑662 [↑x.a,.bool fl,.int c] H K:=by
 apply @WC _ _ Y _ _;show Aw 66 rfl rfl ?_
 induction fl using Bool.casesOn with
 |true=>show Av.at h 0 1 rfl rfl Aj (Ao 22 rfl) rfl (Kg (F:=F.bd) h hc hK)
 |false=>show Av.at h 0 1 rfl rfl Aj (Ao 21 rfl) rfl (Kf (F:=F.bd) h hc hK)
variable{s:DS}{y:DA}
def jnew(w:W)(k:Int):JS:={start:=w.st k,pl:=w.pl k,each:=w.each k,nums:=[],calls:=0,ay:=0}
inductive OpJ(x:CA)(s:DS)(y:DA)(l:List (aK×AObj))(w:W)(sq:Sq):Nat->List V->AH->Prop
 |o0{G:AH}(e:sq=.rng 0 1 2)(C:CH G x s y l (CG.fresh s w.room)):OpJ x s y l w sq 0 [] G
 |o1{G:AH}{z0:JA}(e:sq=.rng 0 1 2)(C:CH G x s y ((jnew w 0).objs z0 x.a++l) (CG.fresh s w.room)):OpJ x s y l w sq 1 [↑z0.a] G
 |o2{G:AH}{z0 z1:JA}(e:sq=.rng 0 1 2)(C:CH G x s y ((jnew w 1).objs z1 x.a++((jnew w 0).objs z0 x.a++l)) (CG.fresh s w.room)):OpJ x s y l w sq 2 [↑z0.a,↑z1.a] G
theorem Mo(h:HL H (s.objs y++l))(so:s.Ok)(hs:∀n,(s.at_ n).length=16)(hb:s.blocks=w.blocks)(wo:WOk w)(hK:∀H' x z0 z1,CH H' x s y ((jnew w 0).objs z0 x.a++((jnew w 1).objs z1 x.a++l)) (CG.fresh s w.room)->K (.tup [↑x.a,.list [↑z0.a,↑z1.a]]) H'):WC F.u.u.u ↑631 [w.val,↑y.a] H K:=by
 apply Y;have rm:=wo.room;have p0:=wo.pl 0 (.inl rfl);have p1:=wo.pl 1 (.inr rfl);show Aw 61 rfl rfl ?_;apply @evS _ _ _ _ _ Y _;show G2.aa (w:=.int w.room) .fro rfl ?_;show S5 (F:=F.bd) h so (lin 0xf67cac2c87b918ef60f6761eef60f6661aef67cac2dd8 14227516711 tt rm p0 p1) hs λx H1 C=>?_;apply @evS _ _ _ _ _ Y _;have new:∀{k:Int}{H:AH}{l:List (aK×AObj)}{K:V->AH->Prop},K2 k->CH H x s y l (CG.fresh s w.room)->(∀z H',CH H' x s y ((jnew w k).objs z x.a++l) (CG.fresh s w.room)->K ↑z.a H')->ev F.u.u.bd.cm (cns (A9 (tst 36)).names [(".0",.local),("k",.local),("Journal",.globalImplicit),("cache",.free),("world",.free)]) 60 (.call ↑218 ['D',(.sub (.sub 'E' (.con (.str "starts"))) 'B'),(.bin .Add (.sub (.sub 'E' (.con (.str "places"))) 'B') 'b'),(.sub (.sub 'E' (.con (.str "each"))) 'B')]) [none,some (.int k),none,some ↑x.a,some w.val] H K:=λ{k H l K}hk C hK=>by
  apply @ev _ _ _ _ Y _ _;show G2.aa (w:=iL [w.st 0,w.st 1]) .fro rfl (G2.two (f:=λk=>.int (w.st k)) hk .d ?_);show G2.aa (w:=iL [w.pl 0,w.pl 1]) .fro rfl (G2.two (f:=λk=>.int (w.pl k)) hk .d ?_);show G2.aa (w:=iL [w.each 0,w.each 1]) .fro rfl (G2.two (f:=λk=>.int (w.each k)) hk .d ?_);show Nt (F:=F.bd.cm) (bl:=0) C so (by rw[hb];show wo.st k hk) (wo.pl k hk) (by change w.pl k+4<=w.room;rcases hk with rfl|rfl;show lin 0x7b3e661a43dc8e57b07b3b0f761a44d958 11559 tt rm p1;show lin 0x7b3e661a43dc8a77b07b3b0f761a44d958 11559 tt rm p0) (wo.each k hk) hK
 show WE.co (WCo.n1 (j:=1) (ex:=(.call ↑218 ['D',(.sub (.sub 'E' (.con (.str "starts"))) 'B'),(.bin .Add (.sub (.sub 'E' (.con (.str "places"))) 'B') 'b'),(.sub (.sub 'E' (.con (.str "each"))) 'B')])) (OpJ x s y l w) tt rfl rfl rfl (λb b=>rfl) ?_ (λsq i xs H' j=>?_) (λsq i xs H' v j e=>?_) λsq i xs H' j e=>?_)
 .show WI.rg (i:=4) (ex:=.con (.int 2)) rfl (λa a=>rfl) rfl {2,rfl,dte tt,.rng,.o0 rfl C}
 .apply Y;induction j using OpJ.casesOn with
  |o0 e=>rcases e;show{trivial,bV _}
  |o1 e=>rcases e;show{trivial,(nle tt:1<=2^20)}
  |o2 e=>rcases e;show{trivial,(by decide:2<=2^20)}
 .induction j using OpJ.casesOn with
  |o0 e1 C=>rcases e1;apply @ev _ _ _ _ _ _ Y;rcases e;show new (.inl rfl) C λz H' C=>.o1 rfl C
  |o1 e1 C=>rcases e1;injection e with e;subst e;show new (.inr rfl) C λz H' C=>.o2 rfl C
  |o2 e1 C=>subst e1;show fn e
 .induction j using OpJ.casesOn with
  |o0 e1 C=>subst e1;show absurd e (aF _)
  |o1 e1 C=>apply Y;subst e1;show absurd e (aF _)
  |o2 e1 C=>show{(by decide:2<=2^20),hK _ x _ _ (C.cj (dO ..))}
end
section
variable{F:Fx}{H:AH}{K:V->AH->Prop}{l:List (aK×AObj)}{w:W}
structure Cu where
 count:Int
 sure:List (Int×Oct)
 ak:List (Int×Oct)
def Cu.step(s:Cu):Row->Cu
 |some p=>{s with ak:=s.ak++[p]}
 |none=>{s with sure:=s.sure++s.ak,ak:=[]}
def An(fl:Bool)(s:Cu):List Row->Cu×Bool
 |[]=>(s,false)
 |r::rs=>bif r.isNone==fl then (bif s.count==0 then (s,true) else An fl (({s with count:=s.count-1}:Cu).step r) rs) else An fl (s.step r) rs
def Bm(fl:Bool)(s:Cu)(at_:Nat):List Deed->Nat×Cu
 |[]=>(at_,s)
 |d::ds=>bif (An fl s d.rows).2 then (at_,(An fl s d.rows).1) else Bm fl (An fl s d.rows).1 (at_+1) ds
structure CuH(H H':AH)(s:Cu)(sl:List (Option V))(u:List (Option V))(da:aK)(fl:Bool):Prop where
 x:Ext H H'
 sl:∃a,sl=some ↑da::some (.bool fl)::some (.int s.count)::some (.list (unV s.sure))::some ↑a::u/\H a=none/\H' a=some (.list (unV s.ak))
 len:s.sure.length+s.ak.length<=10^5
inductive CiJ(H:AH)(da:aK)(fl:Bool)(at_:Nat)(d:Deed)(N:Nat)(R:Cu×Bool)(sq:Sq)(i:Nat)(sl:List (Option V))(H':AH):Prop
 |mk(u:Option V)(s:Cu)(e:sq=.vals none (d.rows.map rowV))(h:CuH H H' s sl [some (.int at_),some d.val,u] da fl)(hf:An fl s (d.rows.drop i)=R)(hl:s.sure.length+s.ak.length+(d.rows.length-i)<=N)
inductive CoJ(H:AH)(da:aK)(fl:Bool)(D:List Deed)(R:Nat×Cu)(sq:Sq)(i:Nat)(sl:List (Option V))(H':AH):Prop
 |mk(u v w:Option V)(s:Cu)(e:sq=.enum (some da) (D.map Deed.val))(hi:i<=D.length)(h:CuH H H' s sl [u,v,w] da fl)(hf:Bm fl s i (D.drop i)=R)(hl:s.sure.length+s.ak.length<=100*i)
theorem Bn:An fl s (r::rs)=bif r.isNone==fl then (bif s.count==0 then (s,true) else An fl (({s with count:=s.count-1}:Cu).step r) rs) else An fl (s.step r) rs:=rfl
theorem Eo:Bm fl s n (d::ds)=bif (An fl s d.rows).2 then (n,(An fl s d.rows).1) else Bm fl (An fl s d.rows).1 (n+1) ds:=rfl
def cuSt:St:=.ite (.cmp .Eq (.cmp .Is 'H' (.con .none)) 'B') (.ite (.cmp .Eq 'C' 'a') (.ret (.tup ['F','D','E'])) .done (.aug 2 .Sub 'b' .done)) .done (.ite (.cmp .Is 'H' (.con .none)) (.raw (Ad [1,0,0,0,1,0,0] (A7 (tst 35))) .done) (.expr (.af 'E' "append" ['H']) .done) .done)
theorem cut_ok(hd:H da=some (dObj D))(hD:D.length<=100/\∀d∈D,d.rows.length<=100)(hK:∀H' a,Ext H H'->H a=none->H' a=some (.list (unV (Bm fl {c,[],[]} 0 D).2.ak))->K (.tup [.int (Bm fl {c,[],[]} 0 D).1,.list (unV (Bm fl {c,[],[]} 0 D).2.sure),↑a]) H'):WC F.u ↑626 [↑da,.bool fl,.int c] H K:=by
 generalize hR:Bm fl {c,[],[]} 0 D=R at hK;have zu:∀{m:List (Int×Oct)},(unV m).length=m.length:=aA ..;show Aw 60 rfl rfl ?_;show WS1.swp (is:=[3,4]) (ex:=.tup [.list [],.list []]) rfl rfl {bV _,.data {bV _,.own λa ha=>{(by decide:2<=2^20),rfl,_,rfl,?_}}};show WS1.forT (is:=[5,6]) (st:=.raw (Ad [1,0,0] (A7 (tst 35))) .done) (CoJ H da fl D R) rfl rfl (λf f=>rfl) rfl ⋯ ?_ (λsq i sl H' j=>?_) (λsq i sl H' v j e=>?_) λsq i sl H' j e=>?_
 .apply @WI _ _ _ _ Y;show WI.en (i:=8) (ex:=.loc 0) rfl (λa a=>rfl) rfl {some da,_,{rfl,?_},.enum,[some ↑da,some (.bool fl),some (.int c),some (.list []),some ↑a,none,none,none],rfl,none,none,none,{c,[],[]},rfl,bV _,{Ext.new (λf f e=>e) ha,{a,rfl,ha,if_pos rfl},bV _},hR,bV _};show Ext.new (λf f e=>e) ha _ _ hd
 .obtain⟨u,v,w,s,rfl,hi,h,f⟩:=j;show h.x _ _ hd
 .obtain⟨u,v',w,s,rfl,hi,⟨x,⟨a,rfl,ha,hb⟩,hl0⟩,hf,hl⟩:=j;obtain⟨w',ew,rfl⟩:=bF.mp e;rw[bK,bF]at ew;obtain⟨d,ed,rfl⟩:=ew;have hi':=(aI.mp ed).1;have dr:=hD.2 d (aX ed);rw[Df ed]at hf;show{rfl,?_};show WS1.f6 (is:=[7]) (st:=cuSt) (CiJ H da fl i d (100*(i+1)) (An fl s d.rows)) rfl rfl (λf f=>rfl) rfl rfl ?_ (λsq k sl H2 j=>?_) (λsq k sl H2 v j e=>?_) λsq k sl H2 j e=>?_
  .show(let K1:=_;let K4:=_;(?_:@WI _ K1 _ _ K4));show WI.ex (ex:=.sub 'G' 'f') rfl (G2.tup (w:=D7 d.rows) (dte tt) (dte tt) rfl {none,_,.d,.vals,_,rfl,w,s,rfl,{x,⟨a,rfl,ha,hb⟩,hl0},rfl,by simp only[Nat.sub_zero];show jj ‹_› ‹_›})
  .obtain⟨u,s,rfl,h,f⟩:=j;show eE
  .apply @evS _ _ _ _ Y _ _;obtain⟨u,s1,rfl,⟨x,⟨a,rfl,ha,hb⟩,hl0⟩,hf1,hl⟩:=j;apply @evS _ _ _ _ _ Y _;obtain⟨r,er,rfl⟩:=Hk e;rw[Df er]at hf1;have hk:=(aI.mp er).1;have go:∀{s2:Cu},s2.sure=s1.sure->s2.ak=s1.ak->An fl (s2.step r) (d.rows.drop (k+1))=An fl s d.rows->evS F.bd (A9 (tst 35)).names K (.ite (.cmp .Is 'H' (.con .none)) (.raw (Ad [1,0,0,0,1,0,0] (A7 (tst 35))) .done) (.expr (.af 'E' "append" ['H']) .done) .done) (CiJ H da fl i d (100*(i+1)) (An fl s d.rows) (.vals none (d.rows.map rowV)) (k+1)) [some ↑da,some (.bool fl),some (.int s2.count),some (.list (unV s1.sure)),some ↑a,some (.int i),some d.val,some (rowV r)] H2:=λ{s2}e1 e2 hf2=>by
    induction r using Option.casesOn with
    |none=>
     apply @evS _ _ _ _ _ Y _;show W2.isNone ?_;show WS1.swp (is:=[3,4]) (ex:=.tup [.bin .Add 'D' 'E',.list []]) rfl rfl (W2.cat .d ⟨rfl,hb⟩ (by rw[zu,zu];show aC ‹_› (nle rfl)) {bV _,.own λa2 ha2=>{(by decide:2<=2^20),rfl,_,rfl,?_}});have ha2':H a2=none:=by
      induction e:H a2 using Option.casesOn with
      |none=>rfl
      |some o=>rw[x _ _ e]at ha2;contradiction
     show{some (rowV none),s2.step none,rfl,{x.new ha2' ,{a2,?_,ha2',if_pos rfl},?_},hf2,?_}
     .change _::_::_::some (V.list (unV s1.sure++unV s1.ak))::_=_
      delta Cu.step unV
      simp only[e1,e2,aJ];rfl
     .change(s2.sure++s2.ak).length+0<=_;rw[e1,e2,aV];show hl0
     .change(s2.sure++s2.ak).length+0+_<=_;rw[e1,e2,aV];show aC (fC (Nat.sub_le_sub_left (jS k) _) _) hl
    |some p=>
     apply @evS _ _ _ _ _ Y _;show W2.isNone ?_;show .blt "list.append" (Gm.list cI rfl ⟨rfl,hb⟩) (WC.append hb (by rw[zu];show lin 0x9c03aa074891913da924390449d045 0x52462ffd07fffe83fd07 tt hD.1 hi' hl) ?_);apply @evS _ _ _ _ _ _ Y;show{some (rowV (some p)),s2.step (some p),rfl,{x.new ha,{a,?_,ha,?_},?_},hf2,?_}
     .unfold Cu.step;rw[e1]
     .show(if_pos rfl).trans ?_;unfold Cu.step;rw[e2];show congrArg (λv=>some (AObj.list v)) (Rw (n:=p.1) (b:=p.2))
     .change s2.sure.length+(s2.ak++[p]).length<=_;rw[e1,e2,aV];show aC (fC (og hk) _) (aC hl (aC (Nat.mul_le_mul_left 100 (ip hi' hD.1)) (nle tt)))
     .change s2.sure.length+(s2.ak++[p]).length+_<=_;rw[e1,e2,aV];show aC (fK (nQ _ 1 _)) (by rw[sub1 hk]at hl;show hl)
   have fin:(s1,true)=An fl s d.rows->K (.tup [.int i,.list (unV s1.sure),↑a]) H2:=λe=>by
    rw[Eo,<- e]at hf;subst hf;show hK H2 a x ha hb
   clear c hd hD R hR hK zu v' w hi hf ed hi' dr hl x hl0 ha hb er e hk;induction r using Option.casesOn with
   |none=>
    show W2.isNone (W2.eqB (bifB (λe1=>?_) λe1=>?_))
    .apply @evS _ _ _ _ Y _ _;simp only[Bn,show(jg (none:Row)==fl)=true from e1,cond_true]at hf1;show bifB (λe2=>?_) λe2=>?_
     .rw[e2,cond_true]at hf1;show{(by decide:3<=2^20),fin hf1}
     .rw[e2,cond_false]at hf1;show W2.isub (go (s2:={s1 with count:=s1.count-1}) rfl rfl hf1)
    .apply @evS _ _ _ _ Y _ _;simp only[Bn,show(jg (none:Row)==fl)=false from e1,cond_false]at hf1;show go (s2:=s1) rfl rfl hf1
   |some p=>
    show W2.isNone (W2.eqB (bifB (λe1=>?_) λe1=>?_))
    .simp only[Bn,show(jg (some p:Row)==fl)=true from e1,cond_true]at hf1;show bifB (λe2=>?_) λe2=>?_
     .rw[e2,cond_true]at hf1;show{(by decide:3<=2^20),fin hf1}
     .rw[e2,cond_false]at hf1;show W2.isub (go (s2:={s1 with count:=s1.count-1}) rfl rfl hf1)
    .apply @evS _ _ _ _ Y _ _;simp only[Bn,show(jg (some p:Row)==fl)=false from e1,cond_false]at hf1;show go (s2:=s1) rfl rfl hf1
  .apply Y;obtain⟨u,s1,rfl,h1,hf1,hl1⟩:=j;have e':=aO.mp e;rw[aA]at e';rw[g9 e']at hf1;rw[Eo,<- hf1]at hf;show{_,rfl,_,_,_,s1,rfl,hi',h1,hf,by show lin 0x48c89ed4722484148c89ed4721044 8420 tt hl1}
 .apply Y;obtain⟨u,v',w,s,rfl,hi,⟨x,⟨a,rfl,ha,hb⟩,hl0⟩,hf,hl⟩:=j;have e':=aO.mp (ik.mp e);rw[aA]at e';have ei:i=D.length:=(cA ‹_› ‹_›);rw[g9 e']at hf;subst hf;show{_,rfl,WC.bg (o:=some da) (xs:=D.map Deed.val) {rfl,x _ _ hd} (by rw[aA];show aC (cF ‹_›) (nle rfl)) {(by decide:3<=2^20),?_}};rw[aA,<- ei];show hK H' a x ha hb
end
section
section
variable{F:Fx}{ns:List (bY×aY)}{sl:List (Option V)}{H:AH}{KL:List V->AH->Prop}
theorem WCo.pair{j:Nat}{ex:Ex}{a b fa fb:V}(ok:okC ns sc=true)(ix:nix (cns ns sc.names) x=some (j,.local))(te:tr (cns ns sc.names) gT 50 false elt=ex)(hg:gs (csl ns sl sc.names) j=none)(hs:∀env x,bN iter env x=pure x)
  (h:WI F (lc ns sl) H iter λsq H1=>Fits sq (.Name x np)/\sq=.vals none [a,b]/\H1=H)
  (ha:∀K:V->AH->Prop,K fa H->ev F.cm (cns ns sc.names) 60 ex (ss (csl ns sl sc.names) j a) H K) (hb:∀K:V->AH->Prop,K fb H->ev F.cm (cns ns sc.names) 60 ex (ss (csl ns sl sc.names) j b) H K) (fin:KL [fa,fb] H):WCo F (lc ns sl) H (.ListComp elt [{.Name x np,iter,[],0}] sc pos) iter sc KL:=by
 show .n1 (λsq i xs H'=>(sq=.vals none [a,b])/\(xs=[fa,fb].take i)/\(i<=2)/\(H'=H)) ok ix te hg hs (h.mono λsq H1 q=>{q.1,q.2.1,rfl,bV _,q.2.2}) (λsq i xs H' j=>?_) (λsq i xs H' v j e=>?_) λsq i xs H' j e=>?_
 .clear iter sc pos np x ex ok ix te hg hs h ha hb fin;obtain⟨rfl,rfl,hi,rfl⟩:=j;show{trivial,by rw[dT];show aC (dC _ _) (show 2<=2^20 by decide)}
 .clear elt iter pos np x ok ix te hg hs h fin;obtain⟨rfl,rfl,hi,rfl⟩:=j;rcases i with _|_|i
  .rw[<- bL e];show ha _ {rfl,rfl,nle tt,rfl}
  .rw[<- bL e];show hb _ {rfl,rfl,nle tt,rfl}
  .show absurd e.symm (aF _)
 .obtain⟨rfl,rfl,hi,rfl⟩:=j;have:=aO.mp e;clear F ns sl elt iter sc pos np x j ex ok ix te hg hs e h ha hb;obtain rfl:i=2:=cA hi this;show fin
end
variable{F:Fx}{H:AH}{K:V->AH->Prop}{l:List (aK×AObj)}{w:W}{s:DS}{y:DA}{x:CA}{g:CG}{j0 j1:JS}{z0 z1:JA}{d:Deed}{n:Int}{b:Nat}
theorem Oq{a b:List Int}:Sms (a.map .int) (b.map .int):=λj x y h1 h2=>by
 obtain⟨c,c,e9⟩:=Bt h1;rw[e9];obtain⟨c,c,e9⟩:=Bt h2;simp only[e9];show .int
theorem Sk{a b:List Oct}:Sms (ysL a) (ysL b):=λj x y h1 h2=>by
 unfold ysL at h1 h2;rw[bK,bF]at h1 h2;obtain⟨c,c,rfl⟩:=h1;obtain⟨c,c,rfl⟩:=h2;show .bytes
def Deed.says(d:Deed)(vs:List Oct)(n:Int):Oct:=(lget d.fresh n).getD (vs.getD n.toNat [])
inductive Sees(w:W)(s:DS)(g:CG)(j0 j1:JS)(d:Deed)(vs:List Oct):Prop
 |mk(v:s.view=vs)(o:d.obs=[j0.calls,j1.calls,j0.pl-j0.nums.length,j1.pl-j1.nums.length])(m:g.most=w.room)(h:∀k,K2 k->g.h (w.held k)≠0)(u:∃U:List Int,U.Nodup/\(∀m,m∈U↔g.used m)/\U.length=(Rd (keys d.fresh++[w.held 0,w.held 1])).length)(fl:d.fresh.length<=100)(says:∀n,0<=n/\n<w.blocks->g.V n=d.says vs n)
theorem Dl:s.view.length=s.blocks.toNat:=by unfold DS.view;rw[aA,dR]
theorem Hl{vs:List Oct}(h:∀o∈vs,o.length=16):vs.flatten.length=16*vs.length:=by
 induction vs with
 |nil=>rfl
 |cons o r ih=>simp only[gZ,aV,ih λo ho=>h o (.tail _ ho),h o (.head _),cK];show lin 0x170476a19411d0e41 7175 tt
theorem DI.vlen(I:DI s b):∀o∈s.view,o.length=16:=λo ho=>by
 obtain⟨n,a,rfl⟩:=aE.mp ho;show I.len n
theorem Xf(C:CH H x s y (j0.objs z0 x.a++(j1.objs z1 x.a++l)) g)(I:DI s b)(R:Room g)(wo:WOk w)(hb:s.blocks=w.blocks)(S:Sees w s g j0 j1 d vs)(hl:j0.nums.length<=100/\j1.nums.length<=100)(hn:0<=n/\n<w.blocks)(hK:∀H',CH H' x s y (j0.objs z0 x.a++(j1.objs z1 x.a++l)) g->K (.bool true) H'):
  WC F.u.u.u.u.u.u.u.u ↑650 [w.val,↑x.a,.list [↑z0.a,↑z1.a],.list [.ref (g.B (w.held 0)),.ref (g.B (w.held 1))],.list (ysL vs),d.val,.int n] H K:=by
 apply Y;obtain⟨rfl,ho,hm,hh,⟨U,nd,hU,ul⟩,hfl,hsay⟩:=S;have bl:=I.blocks;have fz:s.view.flatten.length<=2^20:=by simp only[Hl I.vlen,Dl];show lin 0x7b3056145b716814ea08e849 12884901160 tt bl (bD (bH '#' bl.1))
 have vz:s.view.length=s.blocks.toNat:=Dl;have T0:=C.tail;have T1:HL H (j1.objs z1 x.a++(j0.objs z0 x.a++l)):=T0.perm (dO ..);show Aw 64 rfl rfl ?_;apply @evS _ _ _ _ _ Y _;show G2.tup (w:=.ae (Ax d.fresh)) (dte tt) (dte tt) rfl ?_;apply @evS Y _ _ _ _ _ _;obtain⟨D,hD⟩:=C.bu;apply @evS _ _ _ _ _ Y _;show C.attr (A8 4) (λc c=>rfl) (Av.at hD 0 1 rfl rfl Aj (Ao 24 rfl) rfl (Kh (F:=F.bd.u.u.u.u.u.u) hD I.ok bl.1 fz ?_));apply @ev _ _ _ _ _ _ Y;show .blt "bytes.join" (Gm.bytes Cf Eh) (WC.join (bs:=s.view) .d (by simp only[vz];show lin 0x1ecc158516d940952116c9 10535 tt bl (fR _)) fz (W2.neY ?_));simp only[bne_self_eq_false];show WE.co (WCo.pair (j:=1) (a:=.ref z0.a) (b:=.ref z1.a) (fa:=.int j0.calls) (fb:=.int j1.calls) (ex:=.attr 'B' "calls") ⋯ ⋯ rfl rfl (λc c=>rfl) (WI.ex (ex:=.loc 2) rfl {none,_,.d,.vals,rfl,rfl}) (λK k=>Aa.at T0 0 1 rfl rfl A6 (A8 30) rfl k) (λK k=>Aa.at T1 0 1 rfl rfl A6 (A8 30) rfl k) ?_);show WE.co (WCo.pair (j:=1) (a:=.ref z0.a) (b:=.ref z1.a) (fa:=.int (j0.pl-j0.nums.length)) (fb:=.int (j1.pl-j1.nums.length)) (ex:=.af 'B' "left" []) ⋯ ⋯ rfl rfl (λc c=>rfl) (WI.ex (ex:=.loc 2) rfl {none,_,.d,.vals,rfl,rfl}) (λK k=>Av.at T0 0 1 rfl rfl A6 (Ao 27 rfl) rfl (S8 (F:=F.bd.cm.u.u.u.u.u.u) T0 hl.1 k)) (λK k=>Av.at T1 0 1 rfl rfl A6 (Ao 27 rfl) rfl (S8 (F:=F.bd.cm.u.u.u.u.u.u) T1 hl.2 k)) ?_);show W2.cat .d .d (show 2+2<=2^20 by decide) (G2.tup (w:=iL d.obs) (dte tt) (dte tt) rfl (W2.neL (xs:=[j0.calls,j1.calls,j0.pl-j0.nums.length,j1.pl-j1.nums.length].map .int) (ys:=d.obs.map .int) .d .d Oq λt ht=>?_));have et:t=false:=by
  induction t using Bool.casesOn with
  |false=>rfl
  |true=>show absurd (by simp only[ho]) (ht.mp rfl)
 rw[et];have hv:∀k,K2 k->0<=w.held k/\w.held k<w.blocks:=λk hk=>(wo.own k hk).2 _ (wo.held k hk);have u:∀k,K2 k->g.used (w.held k):=λk hk e=>absurd e (hh k hk);show WE.co (WCo.pair (j:=1) (a:=.ref (g.B (w.held 0))) (b:=.ref (g.B (w.held 1))) (fa:=.bytes (g.V (w.held 0))) (fb:=.bytes (g.V (w.held 1))) (ex:=.af 'B' "octets" []) ⋯ ⋯ rfl rfl (λc c=>rfl) (WI.ex (ex:=.loc 3) rfl {none,_,.d,.vals,rfl,rfl}) (λK k=>C.cw (u 0 (.inl rfl)) (Ao 1 rfl) (λc c=>rfl) (E2 (F:=F.bd.cm.u.u.u.u.u.u) C (u 0 (.inl rfl)) k)) (λK k=>C.cw (u 1 (.inr rfl)) (Ao 1 rfl) (λc c=>rfl) (E2 (F:=F.bd.cm.u.u.u.u.u.u) C (u 1 (.inr rfl)) k)) ?_);have says:∀{n:Int},0<=n/\n<w.blocks->s.view[n.toNat]?=some (s.view.getD n.toNat [])/\(lget (Ax d.fresh) n).getD (.bytes (s.view.getD n.toNat []))=.bytes (g.V n):=λ{n}hn=>by
  have hi:n.toNat<s.view.length:=by simp only[vz,hb];show tn hn
  show{by rw[dI,bE hi];rfl,?_};simp only[hsay n hn,Dq];unfold Deed.says
  cases lget d.fresh n<;>rfl
 have vi:∀{n:Int},0<=n/\n<w.blocks->(ysL s.view)[n.toNat]?=some (.bytes (s.view.getD n.toNat [])):=λhn=>by unfold ysL;simp only[bK,(says hn).1];rfl
 have n62:∀{n:Int},n<w.blocks->n<2^62:=λh=>by have:=wo.bl;show lin 0x38c77b30761c5b698ad0f847e958 404808 tt hb bl h
 show WE.co (WCo.pair (j:=1) (a:=.int (w.held 0)) (b:=.int (w.held 1)) (fa:=.bytes (g.V (w.held 0))) (fb:=.bytes (g.V (w.held 1))) (ex:=.af 'C' "get" ['B',(.sub 'D' 'B')]) tt rfl rfl rfl (λc c=>rfl) (WI.ex (ex:=.sub 'A' (.con (.str "held"))) rfl (G2.aa (w:=iL [w.held 0,w.held 1]) .fro rfl {none,_,.d,.vals,rfl,rfl}))
  (λK k=>.blt "dict.get" (Gm.ae cB ⋯ .fro) (G2.list .d (hv 0 (.inl rfl)).1 (n62 (hv 0 (.inl rfl)).2) (vi (hv 0 (.inl rfl))) (WC.dh .fro ((says (hv 0 (.inl rfl))).2▸k))))
  (λK k=>.blt "dict.get" (Gm.ae cB ⋯ .fro) (G2.list .d (hv 1 (.inr rfl)).1 (n62 (hv 1 (.inr rfl)).2) (vi (hv 1 (.inr rfl))) (WC.dh .fro ((says (hv 1 (.inr rfl))).2▸k)))) ?_)
 apply @dk _ _ _ _ _ Y;show W2.neL (xs:=ysL [g.V (w.held 0),g.V (w.held 1)]) (ys:=ysL [g.V (w.held 0),g.V (w.held 1)]) .d .d Sk λt ht=>?_;have et:t=false:=by
  induction t using Bool.casesOn with
  |false=>rfl
  |true=>show absurd rfl (ht.mp rfl)
 clear wo hl ho hh hsay bl fz vz T0 T1 D hD hv u ht;subst et;show C.af (Ao 14 rfl) (λc=>rfl) (Kj (F:=F.bd.u.u.u.u.u) C nd hU ?_);show G2.aa (w:=.int w.room) .fro rfl ?_;show WE.lenSet (λc c=>rfl) (Ah (i:=8) rfl) b_len (Ah (i:=9) rfl) b_set (exE (ex:=.bin .Add (.call (.type "list") ['H']) (.sub 'A' (.con (.str "held")))) Al rfl ?_);have rl:(Ax d.fresh).length=d.fresh.length:=aA ..;have re:((Ax d.fresh).map λq=>V.int q.1)=(keys d.fresh).map .int:=by unfold Ax;simp only[dB,dB];rfl
 show WC.listI .fro (lin 686256453963842 10503 tt hfl rl) (G2.aa (w:=iL [w.held 0,w.held 1]) .fro rfl ?_);simp only[re];show W2.cat .d .d (by rw[aA,aA];change _+2<=_;show aC (n9 ‹_› _) (nle rfl)) {none,keys d.fresh++[w.held 0,w.held 1],⟨rfl,aJ⟩,by rw[aV,aA];change _+2<=_;show aC (n9 ‹_› _) (nle rfl),?_};rw[<- ul,hm];show bifB (λe=>by rw[bne_self_eq_false]at e;show aR e) λc=>?_;show C.af (Ao 12 rfl) (λc=>rfl) (Nn (F:=F.bd) C I.ok I.on (by simp only[hb];show hn) R λH1 C1=>?_);apply @ev _ _ _ _ _ _ Y;show .blt "dict.get" (Gm.ae cB ⋯ .fro) (G2.list .d hn.1 (n62 hn.2) (vi hn) (WC.dh .fro ?_));rw[(says hn).2];show W2.eqY ?_;rw[beq_self_eq_true];show hK H1 C1
end
section
variable{F:Fx}{H:AH}{K:V->AH->Prop}{l:List (aK×AObj)}{w:W}{s:DS}{y:DA}{x:CA}{g:CG}{b:Nat}{k:Int}{ns:Int->List Int}
theorem Xg:∀n:Fin 256,((n.val.toUInt8).toNat:Nat)=n:=by decide +kernel
theorem Os{n:Int}(h:0<=n/\n<256):((n.toNat.toUInt8).toNat:Int)=n:=by
 have:=Xg {n.toNat,by show lin 0x7b500e1585b38b40a900e049 11560 tt h (bD h.1)}
 dsimp only at this
 rw[this];show lin 31172969472073 9699623 tt (bD h.1)
theorem Ot{ns:List Int}(hs:Ha ns):((Ca ns).getD (0:Int).toNat 0).toNat=ns.length:=by
 have h:=Os (n:=ns.length) {(cr _),by have:=hs.1;show lin 0x48f616a01ca041 263 tt hs.1};change((Ca ns).getD 0 0).toNat=_;rw[(rfl:(Ca ns).getD 0 0=((ns.length:Int).toNat).toUInt8)];show lV.mp h
theorem Uy{ns:List Int}(hs:Ha ns){p:Nat}(e:ns[p]?=some n):(((Ca ns).getD (4*(p:Int)+4).toNat 0).toNat:Int)=n:=by
 have hn:=hs.2 n (aX e);have hp:=(aI.mp e).1;have hl:=hs.1;have e2:(4*(p:Int)+4).toNat=4*p+4:=by rfl
 show bP ?_ (Os hn);congr 2;clear hn e2 hs;apply Y;obtain⟨h,rfl⟩:=aI.mp e;clear e hp;obtain rfl|rfl|rfl:p=0\/p=1\/p=2:=by lia
 all_goals rcases len3 hl with rfl|⟨a,rfl⟩|⟨a,b,rfl⟩|⟨a,b,c,rfl⟩<;>first|rfl|show absurd h (g8.mpr (nle rfl))
noncomputable abbrev sCut:bY:="cut"
noncomputable abbrev sRight:bY:="right"
theorem Sn:Ff "Crash" ↑95:=(Al.fn _ (Dj (x:="Crash") rfl)).1
theorem Ou:HdF 95:={λP=>rfl,λP=>rfl,λP=>⟨_,_,rfl,rfl⟩}
theorem Mq:SubF 95 95 true:=λP=>rfl
def zz(z0 z1:JA)(k:Int):JA:=if k=0 then z0 else z1
theorem CH.pick(hk:K2 k)(C:CH H x s y ((jnew w 0).objs z0 x.a++((jnew w 1).objs z1 x.a++l)) g):∃r,CH H x s y ((jnew w k).objs (zz z0 z1 k) x.a++r) g/\((jnew w k).objs (zz z0 z1 k) x.a++r).Perm ((jnew w 0).objs z0 x.a++((jnew w 1).objs z1 x.a++l)):=by
 rcases hk with rfl|rfl
 .show{_,C,.refl _}
 .show{_,C.cj (dO ..),(dO ..)}
structure Kt(w:W)(s:DS)(ns:Int->List Int):Prop where
 e:∀k,K2 k->s.at_ (w.st k)=Ca (ns k)
 own:∀k,K2 k->∀n∈ns k,n∈w.own k
 nd:∀k,K2 k->(ns k).Nodup
 len:∀k,K2 k->((ns k).length:Int)<=w.pl k
theorem Kt.hd(wo:WOk w)(h:Kt w s ns)(hk:K2 k)(hb:s.blocks=w.blocks):Hd (jnew w k) s.blocks (ns k):=by
 have pl:=wo.pl k hk;have bl:=wo.bl;have:=h.len k hk;have ow:=λn hn=>(wo.own k hk).2 n (h.own k hk n hn);show{{by show lin 0x1ec1ecac2dd85a0523d849 10536 tt pl this,λn hn=>by have:=ow n hn;show{by show lin 0x7b4c5616cc2d90 295 tt this,by show lin 0x1ecc198616ded31585b3500e150 11592 tt bl this}},h.len k hk,h.nd k hk,λn hn=>{by simp only[hb];show ow n hn,wo.lg k k n hk hk (h.own k hk n hn)}}
theorem Xh(wo:WOk w)(hk:K2 k):Jok (jnew w k) w.blocks:=by
 have pl:=wo.pl k hk;have ea:=wo.each k hk;show{(wo.st k hk).1,pl,{(wo.st k hk).2,(wo.bl).2},{(cO (cF ‹_›)),(bH (cL ‹_›) (cL ‹_›))},λa h=>(absurd h aD),.nil,(cO (cF ‹_›)),{bM _,(show(0:Int)<=1000 by decide)}}
theorem Qb:∀{ns:List Int}{st:Int},(∀i:Nat,i<ns.length->V1 (st+i)=V2 (st+i))->insR V1 true st ns=insR V2 true st ns:=by
 intro l9
 induction l9 with
 |nil=>intro z1 z2;show rfl
 |cons n r ih =>
  intro st h;change some (n,V1 st)::insR V1 true (st+1) r=some (n,V2 st)::insR V2 true (st+1) r;have h0:=h 0 (my _);simp only[dP,ci]at h0;rw[h0];show congrArg (cW _) (ih λi hi=>?_);have:=h (i+1) (oN hi);rwa [show st+((i+1:Nat):Int)=st+1+i by show lin 0xe950352ca950949 7175 tt]at this
def recs(w:W)(s:DS)(ns:Int->List Int)(f:Int)(i:Nat):List Row:=([recR s.at_ (w.st f) (ns f),recR s.at_ (w.st (1-f)) (ns (1-f)),[]].take i).flatten
theorem Nw{st:Int}{l:List Int}(h:some p∈recR V' st l):(p.1∈l/\∃n,p.2=V' n)\/p=(st,Ca []):=by
 unfold recR at h;apply Y;split at h
 .show absurd h aD
 .rcases aZ.mp h with h|h
  .obtain⟨h1,k,a,e⟩:=Hi h;show .inl ⟨h1,_,e⟩
  .show .inr (Cy h)
theorem Ny{V':Int->Oct}{st:Int}{l:List Int}(hl:l.length<=3):(recR V' st l).length<=6:=by
 unfold recR;split
 .show bV _
 .simp only[aV,Oo];change _+1+2<=6;lia
theorem Xi{rs:List Row}:∀{s:DS},(exec s rs).1=false->(∀p,some p∈rs->p.1≠m)->(exec s rs).2.at_ m=s.at_ m:=by
 induction rs with
 |nil=>show λa a=>rfl
 |cons q rs ih=>
  intro s e h;simp only[Bs]at e ⊢;rcases eo:s.out q<;>rw[eo]at e
  .show(ih e λp hp=>h p (.tail _ hp)).trans ?_;clear e eo;induction q using Option.casesOn with
   |none=>rfl
   |some p=>show Q1.trans (if_neg (h p (.head _)).symm)
  .show aR e
def kf(f:Int)(i:Nat):Int:=if i=1 then 1-f else f
def nsAt(ns:Int->List Int)(f:Int):Nat->Int->List Int
 |0=>ns
 |1=>upd ns f []
 |_=>upd (upd ns f []) (1-f) []
structure ReM(w:W)(s:DS)(ns:Int->List Int)(f:Int)(b:Nat)(x:CA)(y:DA)(z0 z1:JA)(l:List (aK×AObj))(i:Nat)(H:AH)(s1:DS):Prop where
 ex:exec s (recs w s ns f i)=(false,s1)
 hd:Kt w s1 (nsAt ns f i)
 lg:∀k n,K2 k->w.st k<n/\n<w.st k+(w.pl k+1)->s1.at_ n=s.at_ n
 di:DI s1 (b+6*(3-i))
 bl:s1.blocks=w.blocks
 c:∃u g,CH H x s1 {y with u:=u} ((jnew w 0).objs z0 x.a++((jnew w 1).objs z1 x.a++l)) g/\(Room g/\g.most=w.room)/\∀n,g.h n=0/\g.p n=0
theorem K2.flip(hk:K2 k):K2 (1-k):=by rcases hk with rfl|rfl<;>decide
theorem K2.ne(hk:K2 k):1-k≠k:=by rcases hk with rfl|rfl<;>decide
theorem kf_k2{i:Nat}(hf:K2 f):K2 (kf f i):=by unfold kf;split;show hf.flip;show hf
theorem sepk(wo:WOk w)(hk:K2 k){n:Int}(h:w.st k<=n/\n<w.st k+(w.pl k+1)):¬ (w.st (1-k)<=n/\n<w.st (1-k)+(w.pl (1-k)+1)):=by
 rcases hk with rfl|rfl
 .show wo.sep n h
 .show λh2=>wo.sep n h2 h
theorem Uz:g.b5 (a++c)=(g.b5 a).b5 c:=by unfold CG.b5;rw[fP]
theorem Ov(wo:WOk w)(hk:K2 k)(own:∀n∈nk,n∈w.own k)(e:exec s (recR V' (w.st k) nk)=(false,s2))(hi:K2 i)(hn:w.st i<=n/\n<w.st i+(w.pl i+1))(h:n≠w.st k):s2.at_ n=s.at_ n:=by
 have e2:s2=(exec s (recR V' (w.st k) nk)).2:=by simp only[e]
 rw[e2];show Xi (congrArg _ e) λp hp y=>?_;rcases Nw hp with⟨h1,a⟩|h1
 .show wo.lg k i p.1 hk hi (own _ h1) (y▸hn)
 .show h (by simp only[<- y,h1])
theorem V0(e:exec s (recR s.at_ (w.st k) nk)=(false,s2))(h:s.at_ (w.st k)=Ca nk):s2.at_ (w.st k)=Ca []:=by
 by_cases h0:nk=[]
 .subst h0;rcases e;show h
 .have er:recR s.at_ (w.st k) nk=insR s.at_ true (w.st k+1) nk++Gn (w.st k) []:=if_neg h0;have e2:s2=(exec s (recR s.at_ (w.st k) nk)).2:=by rw[e]
  rw[e2];show(On (g:={0,s.at_,λa=>0,λa=>0,λa=>0}) (congrArg _ e) (.inl rfl)).trans ?_;rw[er,Uz];show Ag
theorem ReM.rows(M:ReM w s ns f b x y z0 z1 l i H s1)(hi:i<3)(wo:WOk w)(hf:K2 f)(hns:∀k,K2 k->((ns k).length:Int)<=w.pl k):recs w s ns f (i+1)=recs w s ns f i++recR s1.at_ (w.st (kf f i)) (nsAt ns f i (kf f i)):=by
 have cg:∀k,K2 k->recR s1.at_ (w.st k) (ns k)=recR s.at_ (w.st k) (ns k):=λk hk=>by
  unfold recR;rw[Qb λj hj=>M.lg k _ hk {by show Int.le_add_of_nonneg_right (by first|assumption|show cF (by assumption)|show cL (by assumption)|decide|show cr _|show aC (by assumption) (nle rfl)),by have:=hns k hk;show lin 0x284161a826caa62ca81a952 9479 tt hj this}]
 clear M;obtain rfl|rfl|rfl:i=0\/i=1\/i=2:=by lia
 .change _++[]=[]++_;rw[bG];show(cg f hf).symm
 .
  change _++(_++[])=(_++[])++_;rw[bG,bG];have:nsAt ns f 1 (kf f 1)=ns (1-f):=Af hf.ne;simp only[this];show congrArg _ (cg (1-f) hf.flip).symm
 .
  have:nsAt ns f 2 (kf f 2)=[]:=by
   change upd (upd ns f []) (1-f) [] f=[];rw[Af hf.ne.symm,Ag]
  simp only[this];show(bG _).symm
end
section
variable{F:Fx}{H:AH}{K:V->AH->Prop}{l:List (aK×AObj)}{w:W}{s:DS}{y:DA}{x:CA}{b:Nat}{ns:Int->List Int}{f:Int}{z0 z1:JA}
theorem HL.sub(h:HL H L)(s:L'.Sublist L):HL H L':={λp hp=>h.at_ p (s.subset hp),(s.map _).nodup h.nd}
theorem Gb(hf:K2 f)(hi:i<3)(hk:K2 k):nsAt ns f (i+1) k=upd (nsAt ns f i) (kf f i) [] k:=by
 rcases lt3 hi with e|e|e<;>rw[e]
 .rfl
 .rfl
 .change upd (upd ns f []) (1-f) [] k=upd (upd (upd ns f []) (1-f) []) f [] k;rcases bB (k=f) with e|e
  .clear hf;subst e;rw[Ag,Af hk.ne.symm,Ag]
  .rw[Af e]
theorem ReM.recover(M:ReM w s ns f b x y z0 z1 l i H s1)(hi:i<3)(wo:WOk w)(hf:K2 f)(hns:∀k,K2 k->((ns k).length:Int)<=w.pl k)
  (hc:(exec s (recs w s ns f 3)).1=true->∀H' u,HL H' ((exec s (recs w s ns f 3)).2.objs {y with u:=u}++l)->F.KX 95 H')
  (hK:∀H' s2,ReM w s ns f b x y z0 z1 l (i+1) H' s2->K (iL (nsAt ns f i (kf f i))) H'):WC F.u.u.u.u.u.u.u.u.u ↑215 [.ref (zz z0 z1 (kf f i)).a] H K:=by
 apply Y;have hk:=kf_k2 (i:=i) hf;have er:=M.rows hi wo hf hns;obtain⟨ex,hd,lg,di,bl,u,g,C,⟨R,gm⟩,h0⟩:=M;have eV:g.V=s1.at_:=funext λn=>C.cl (h0 n).1 (h0 n).2;obtain⟨r,C1,pm⟩:=C.pick hk;have h2:=hd.hd wo hk bl;have rl:=Ny (V':=s1.at_) (st:=w.st (kf f i)) h2.sm.1;have I:DI s1 (b+6*(3-(i+1))+(recR g.V (w.st (kf f i)) (nsAt ns f i (kf f i))).length):=by rw[eV];show di.less (aC (fC rl _) (fK (by rw[sub1 hi];show iP b _ 6)))
 have e3:∃more,recs w s ns f 3=recs w s ns f (i+1)++more:=by
  unfold recs;show{_,by rw[<- gd];congr 1;rw[show i+1=min (i+1) 3 by lia,<- List.take_take];show(gR (i+1) _).symm}
 obtain⟨more,e3⟩:=e3;have e4:exec s (recs w s ns f (i+1))=exec s1 (recR s1.at_ (w.st (kf f i)) (nsAt ns f i (kf f i))):=by rw[er,Eu,ex];rfl
 have J:=Xh wo hk;rw[<- bl]at J;have eR:recR g.V (jnew w (kf f i)).start (nsAt ns f i (kf f i))=recR s1.at_ (w.st (kf f i)) (nsAt ns f i (kf f i)):=by rw[eV];rfl
 have hl:=hd.len _ hk;have hown:=hd.own _ hk;show Q5 (j:=jnew w (kf f i)) C1 I R J h2 (by rw[eV];show hd.e _ hk) rfl rfl (λe H' u' h=>?_) λe H' u' C2=>?_
 .rw[eR]at e h;rw[<- e4]at e h;have:exec s (recs w s ns f 3)=exec s (recs w s ns f (i+1)):=by rw[e3,Eu,e];rfl
  rw[this]at hc;show hc e H' u' ((h.perm (pm.append_left _)).sub (.append (.refl _) (.trans (bW ..) (bW ..))))
 .rw[eR]at e C2;generalize hs2:exec s1 (recR s1.at_ (w.st (kf f i)) (nsAt ns f i (kf f i)))=q at e C2 e4;obtain⟨q1,s2⟩:=q;rcases (show q1=false from e);have dr:=DI.run (s:=s1) (b:=b+6*(3-(i+1))) (rs:=recR s1.at_ (w.st (kf f i)) (nsAt ns f i (kf f i))) (by rw[<- eR];show I) (λq hq=>?_) (by rw[hs2])
  .rw[hs2]at dr;have hp:=Gk (g:=g) (rs:=recR s1.at_ (w.st (kf f i)) (nsAt ns f i (kf f i)));show hK H' s2 {e4,{λk hk2=>?_,λk hk2=>?_,λk hk2=>?_,λk hk2=>?_},λk n hk2 hn=>?_,dr.1,dr.2.trans bl,u',_,C2.cj pm,{R.b5,hp.2.2.2.trans gm},λn=>by rw[hp.1,hp.2.1];show h0 n}
   .rw[Gb hf hi hk2];by_cases ek:k=kf f i
    .subst ek;rw[Ag];show V0 hs2 (hd.e _ hk)
    .rw[Af ek,<- hd.e k hk2];have pl:=wo.pl k hk2;show Ov wo hk hown hs2 hk2 {bM _,by lia} λy=>by
      have k1:k=1-kf f i:=by rcases hk with e1|e1<;>rcases hk2 with e2|e2<;>rw[e1]at ek ⊢<;>first|show absurd e2 ek|(rw[e2];decide)
      show sepk wo hk {bM _,by show lin 0x61a816caa62951 8417 tt hl} (k1▸{by rw[y];show bM _,by rw[<- y];lia})
   .rw[Gb hf hi hk2];by_cases ek:k=kf f i
    .subst ek;rw[Ag];show λc h=>absurd h aD
    .rw[Af ek];show hd.own k hk2
   .rw[Gb hf hi hk2];by_cases ek:k=kf f i
    .subst ek;rw[Ag];show .nil
    .rw[Af ek];show hd.nd k hk2
   .rw[Gb hf hi hk2];by_cases ek:k=kf f i
    .subst ek;rw[Ag];have:=wo.pl _ hk2;change(0:Int)<=_;show cO (cF ‹_›)
    .rw[Af ek];show hd.len k hk2
   .rw[<- lg k n hk2 hn];show Ov wo hk hown hs2 hk2 {by lia,hn.2} λy=>by
     by_cases ek:k=kf f i
     .subst ek;show lin 0x714cf6caa7299a62c58 295 tt y hn
     .have pk:=wo.pl _ hk;have k1:k=1-kf f i:=by rcases hk with e1|e1<;>rcases hk2 with e2|e2<;>rw[e1]at ek ⊢<;>first|show absurd e2 ek|(rw[e2];decide)
      show sepk wo hk (n:=n) {(dY (eG ‹_›)),by show lin 0x38c57b07b3b0f76caa73158 11559 tt y pk} (k1▸{by lia,hn.2})
  .induction q using Option.casesOn with
   |none=>show eE
   |some p=>
    rcases Nw hq with⟨h1,n,h3⟩|h1
    .show{(h2.ok _ h1).1,h3▸di.len n}
    .have st:=wo.st _ hk;rw[h1,bl];show{{st.1,by change w.st (kf f i)<_;show lin 0x30f40bd86954e5616cd3159 337121 tt hl st},Dt (nle tt)}
inductive ReJ(w:W)(s:DS)(ns:Int->List Int)(f:Int)(b:Nat)(x:CA)(y:DA)(z0 z1:JA)(l:List (aK×AObj))(sq:Sq)(i:Nat)(sl:List (Option V))(H:AH):Prop
 |mk(u4 u5:Option V)(s1:DS)(hs:sl=[some w.val,some ↑y.a,some (.int f),some (.list [↑z0.a,↑z1.a]),u4,u5])(e:sq=.vals none [.int f,.int (1-f),.int f])(hi:i<=3)(M:ReM w s ns f b x y z0 z1 l i H s1)
inductive OcJ(H:AH)(ns:List Int)(sq:Sq)(i:Nat)(xs:List V)(H':AH):Prop
 |mk(e:sq=.rng 0 1 ns.length)(hx:xs=(ns.take i).map .int)(hi:i<=ns.length)(p:H'=H)
theorem kf_at(e:([.int f,.int (1-f),.int f]:List V)[i]?=some v):i<3/\v=.int (kf f i):=by
 rcases i with _|_|_|i
 iterate 3 show{nle tt,(bL e).symm}
 show absurd e.symm (aF _)
def reSt:St:=.set 5 (.af 'B' "read" [(.sub (.sub 'A' (.con (.str "starts"))) 'E')]) (.ite (.cmp .NotEq (.af (.sub 'D' 'E') "recover" []) (.raw (B0 [1] (stE 0 (Ad [1,0,0,0,1] (A7 (tst 42))))))) (.ret (.con (.str "wrong"))) .done .done)
theorem Gw(h:HL H (s.objs y++l))(I:DI s (b+18))(hb:s.blocks=w.blocks)(wo:WOk w)(hf:K2 f)(hd:Kt w s ns)
  (hc:(exec s (recs w s ns f 3)).1=true->∀H' u,HL H' ((exec s (recs w s ns f 3)).2.objs {y with u:=u}++l)->K (.str sCut) H')
  (hK:∀H' s2 x z0 z1,ReM w s ns f b x y z0 z1 l 3 H' s2->K (.str sRight) H'):WC F.u.u.u.u.u.u.u.u.u.u ↑667 [w.val,↑y.a,.int f] H K:=by
 apply @WC _ _ Y _ _;have rm:=wo.room;have p0:=wo.pl 0 (.inl rfl);have p1:=wo.pl 1 (.inr rfl);show Aw 67 rfl rfl ?_;apply @evS Y _ _ _ _ _ _;show Mo (F:=F.bd.u.u.u.u.u.u) h I.ok I.len hb wo λH1 x z0 z1 C=>?_;show G2.tup (w:=.list [↑z0.a,↑z1.a]) (dte tt) (dte tt) rfl ?_;apply @evS _ _ _ _ _ Y _;have M0:ReM w s ns f b x y z0 z1 l 0 H1 s:={rfl,hd,λc c c c=>rfl,I.less (lin 0x91ec4994b619191d1042 9412583 tt (sub_le _ _)),hb,y.u,_,C,{{[],λm h=>absurd rfl (h rfl),by change((0:Nat):Int)<w.room;show lin 0x1ecf958590f7231dec1ecec3ddec1eccc35da5a598 437543 tt rm p0 p1},rfl},λc=>⟨rfl,rfl⟩};show WS1.try (λX H'=>X=95/\K (.str sCut) H') [] rfl rfl (λc c h=>absurd h aD) ?_ λX H' k=>?_
 .show(Jc (F:={F.u.u.u.u.u.u.u.u.u.bd with KX:=λX H'=>X=95/\K (.str sCut) H',keep:=[]}) Al rfl rfl 60 _ _ H1 (λsl' H'=>evS F.u.u.u.u.u.u.u.u.u.bd (A9 (tst 42)).names K (.ret (.con (.str "right"))) (λc H'=>K .none H') sl' H') ?_);show(let K0:=_;let K4:=_;(?_:@evS K0 _ _ _ K4 _ _));show WS1.f6 (is:=[4]) (st:=reSt) (ReJ w s ns f b x y z0 z1 l) rfl rfl (λc c=>rfl) rfl rfl ?_ (λsq i sl H' j=>?_) (λsq i sl H' v j e=>?_) λsq i sl H' j e=>?_
  .apply @WI _ _ _ _ Y;show WI.ex (ex:=.list ['C',(.bin .Sub 'b' 'C'),'C']) ⋯ {(nle tt:3<=2^20),.data {none,_,.d,.vals,_,⋯,none,none,s,rfl,rfl,bV _,M0}}
  .obtain⟨u4,u5,s1,rfl,rfl,hi,M⟩:=j;show eE
  .apply Y;obtain⟨u4,u5,s1,rfl,rfl,hi,M⟩:=j;obtain⟨hi2,rfl⟩:=kf_at e;have hk:=kf_k2 (i:=i) hf;have st:=wo.st _ hk;have pl:=wo.pl _ hk;have sm:=(M.hd.hd wo hk M.bl).sm;have he:=M.hd.e _ hk;have D:=M.di;have bl:=M.bl;have MM:=M;obtain⟨c,c,c,c,c,u,g,C,c,c⟩:=MM;obtain⟨R,hD⟩:=C.bu;show Av.at hD 0 1 rfl rfl Aj (Ao 17 rfl) rfl ?_;apply @evL _ _ _ Y;show G2.aa (w:=iL [w.st 0,w.st 1]) .fro rfl (G2.two (f:=λk=>.int (w.st k)) hk .d ?_);show Rs (F:={F.bd.u.u.u.u with KX:=λX H'=>X=95/\K (.str sCut) H',keep:=[]}) (x:={y with u:=u}) hD D.ok (by rw[bl];show lin 0x3d86954e5616cf60f6761eef698ac2d98 378798439 tt st pl) (λe=>by rw[D.on]at e;rcases e) λc=>?_;rw[he];apply @evS _ _ _ _ Y _ _;obtain⟨r,C1,c⟩:=C.pick hk;show G2.two (f:=λk=>.ref (zz z0 z1 k).a) hk .d (Av.at C1.tail 0 1 rfl rfl A6 (Ao 36 rfl) rfl ?_);apply @evL Y _ _ _;show M.recover (F:={F.bd with KX:=λX H'=>X=95/\K (.str sCut) H',keep:=[]}) hi2 wo hf hd.len (λe H' u h=>{rfl,hc e H' u h}) λH2 s2 M2=>?_;generalize nsAt ns f i (kf f i)=nk at sm he;have hl:=Dt sm.1;show WE.co (WCo.n1 (j:=1) (ex:=(.sub 'C' (.bin .Add (.bin .Mult 'e' 'B') 'e'))) (OcJ H2 nk) tt rfl rfl rfl (λc c=>rfl) ?_ (λsq i xs H' j=>?_) (λsq i xs H' v j e=>?_) λsq i xs H' j e=>?_)
   .show WI.rg (i:=7) (ex:=.sub 'F' 'a') rfl (λa a=>rfl) ⋯ (G2.bytes (by lia) (dte tt) (lin 809697021313 296 tt hl) {_,rfl,?_,.rng,?_,rfl,bV _,rfl})
    .rw[Ot sm];have:=sm.1;show{by show lin 26480001 225 tt,by show lin 0x123d8581408fda041 263 tt sm.1}
    .rw[Ot sm];rfl
   .apply Y;obtain⟨rfl,rfl,hi,rfl⟩:=j;show{trivial,by rw[aA,dT];have:=sm.1;show aC (dC _ _) (by first|assumption|show cF (by assumption)|show cL (by assumption)|decide|show cr _|show aC (by assumption) (nle rfl))}
   .obtain⟨rfl,rfl,hi,rfl⟩:=j;obtain⟨hi2,rfl⟩:=Dd e;rw[fF,dH];apply @ev _ _ _ _ Y _ _;show W2.mul (.of_left (nle tt)) (G2.bytes (by lia) (by change(0:Int)<=4*i+4;show cr _) (by change(4*i+4:Int)<_;show lin 0x247b1af2250c2da0a44d911da043 379583815 tt sm.1 hl hi2) {rfl,?_,hi2,rfl});rw[cE,bE hi2,aJ];show congrArg (_++[·]) (congrArg V.int ?_);show Uy sm (bE hi2)
   .apply @dk _ _ _ _ _ Y;obtain⟨rfl,rfl,hi,rfl⟩:=j;have he2:=Ct e;rw[bT he2];show W2.neL (xs:=nk.map .int) (ys:=nk.map .int) .d .d Oq λt ht=>?_;show bifB (λe=>absurd rfl (ht.mp e)) λc=>⟨_,_,s2,rfl,rfl,hi2,M2⟩
  .apply Y;obtain⟨u4,u5,s1,rfl,rfl,hi,M⟩:=j;have:i=3:=cA hi (aO.mp e);subst this;show{_,rfl,hK _ s1 x z0 z1 M}
 .obtain⟨rfl,k⟩:=k;show .hit Sn (Ah (i:=8) rfl) Ou Mq (.inl ⟨_,_,_,rfl,k⟩)
end
section
variable{F:Fx}{H:AH}{K:V->AH->Prop}{L l:List (aK×AObj)}{w:W}{s:DS}{y:DA}{b:Nat}{bx:aK}{N:Int}
theorem BH.spl(h:BH H bx N (A++l)):∃o,HL H (A++(l++[(bx,o)]))/\BoxO N o:=by
 apply Y;obtain⟨o,h,ok⟩:=h;simp only[aH]at h;show⟨o,h,ok⟩
theorem BH.jn(h:HL H (A++(l++[(bx,o)])))(ok:BoxO N o):BH H bx N (A++l):={o,by simp only[aH];show h,ok}
theorem So(B:BH H bx N L)(hN:N+many<=10^6)(hm:0<=many/\many<=1000)(h:∀ns H',Rise ns many->BH H' bx (N+many) L->K (.list (ns.map .int)) H'):WC F.u.u ↑559 [↑bx,.int many] H K:=by
 apply Y;obtain⟨o,hl,ok⟩:=B;obtain⟨x,y,z,hx,hy,hz⟩:=ok;show Wu {x,y,z,(hl.at_ (bx,_) (aG _ (.head _))),hx,hy,hz} hN hm λns H' r B' ap=>?_;obtain⟨x',y',z',e',hx',hy',hz'⟩:=B';have nd:=hl.nd;rw[aJ]at nd;show h ns H' r {_,{λp hp=>?_,by rw[aJ];show nd},⟨x',y',z',hx',hy',hz'⟩};rcases aZ.mp hp with hp|hp
 .show(ap p.1 λy=>(eC.mp nd).2.2 _ (bZ hp) _ (.head _) y).trans (hl.at_ p (aU _ hp))
 .cases aP.mp hp;show e'
def DS.ai(s:DS)(fl:Bool)(c:Int):DS:=bif fl then {s with ax:=some (s.ag+c)} else {s with last:=some (s.writes+c)}
theorem DI.ai{fl:Bool}{c:Int}(I:DI s b):DI (s.ai fl c) b/\(s.ai fl c).blocks=s.blocks/\(s.ai fl c).at_=s.at_:=by
 obtain⟨h1,h2,h3,h4,h5,h6,h7,h8,h9⟩:=I;rcases fl<;>show{⟨h1,h2,h3,h4,h5,h6,h7,h8,h9⟩,rfl,rfl}
theorem DI.runX{rs:List Row}:∀{s:DS},DI s (b+rs.length)->(∀r∈rs,En s.blocks r)->∃s',DI s' b/\s'.blocks=s.blocks/\((exec s rs).2=s'\/(exec s rs).2 = {s' with dead:=true}):=by
 induction rs with
 |nil=>show λh c=>{_,h,rfl,.inl rfl}
 |cons r rs ih=>
  intro s h hr;simp only[Bs]
  induction eo:s.out r using Bool.casesOn with
  |false=>
   apply Y;obtain⟨h1,h2⟩:=DI.stp (b:=b+rs.length) h (hr r (.head _));obtain⟨s',a1,a2,a3⟩:=ih h1 λq hq=>(h2▸hr q (.tail _ hq));show{s',a1,a2.trans h2,a3}
  |true=>show{s,h.less (gY ..),rfl,.inr rfl}
theorem DI.dead(I:DI s b):({s with dead:=true}:DS).Ok:=let o:=I.ok;{o.blocks,o.size,o.w,o.f,o.kept,o.ah,o.ar}
theorem DI.aft{ps:List Int}(I:DI s b):DI (s.aft ps) 1000/\(s.aft ps).blocks=s.blocks:=by
 have kk:Keys (lay s.kept (picks s.ar ps s.ar.length)) s.blocks:=Keys.lay (λp hp=>by
  apply Y;obtain⟨j,a,e⟩:=cX.mp hp;split at e
  .show I.uu p (aX e)
  .show absurd e.symm (aF _)) I.kk
 show{{I.blocks,rfl,{bM _,by change(0:Int)+1000<=10^6;decide},{bM _,by change(0:Int)+1000<=10^6;decide},by change 0+1000<=10^5;decide,kk,kk,λa h=>(absurd h aD),rfl},rfl}
def Recd(w:W)(s:DS)(due:Oct):Prop:=∃ns,Kt w s ns/\∀fl c f,0<=c->K2 f->∀ps,Rise ps (exec (s.ai fl c) (recs w (s.ai fl c) ns f 3)).2.ar.length->∃ns2,Kt w ((exec (s.ai fl c) (recs w (s.ai fl c) ns f 3)).2.aft ps) ns2/\∀f2,K2 f2 ->
 (exec ((exec (s.ai fl c) (recs w (s.ai fl c) ns f 3)).2.aft ps) (recs w ((exec (s.ai fl c) (recs w (s.ai fl c) ns f 3)).2.aft ps) ns2 f2 3)).1=false /\
 (exec ((exec (s.ai fl c) (recs w (s.ai fl c) ns f 3)).2.aft ps) (recs w ((exec (s.ai fl c) (recs w (s.ai fl c) ns f 3)).2.aft ps) ns2 f2 3)).2.view.flatten=due /\
 (exec ((exec (s.ai fl c) (recs w (s.ai fl c) ns f 3)).2.aft ps) (recs w ((exec (s.ai fl c) (recs w (s.ai fl c) ns f 3)).2.aft ps) ns2 f2 3)).2.ar=[]
theorem Sp(wo:WOk w)(hf:K2 f)(h:Kt w s ns)(I:DI s b)(hb:s.blocks=w.blocks):(recs w s ns f 3).length<=12/\∀r∈recs w s ns f 3,En s.blocks r:=by
 apply Y;have one:∀k,K2 k->∀r∈recR s.at_ (w.st k) (ns k),En s.blocks r:=λk hk r hr=>by
  induction r using Option.casesOn with
  |none=>show eE
  |some p=>
   have st:=wo.st k hk;have pl:=wo.pl k hk;rcases Nw hr with⟨h1,n,h3⟩|h1
   .show{((h.hd wo hk hb).ok _ h1).1,h3▸I.len n}
   .simp only[h1,hb];show{{st.1,by change w.st k<_;show lin 0x3d86954e5616cf60f6761eed3158 11560 tt st pl},Dt (nle tt)}
 have l1:=Ny (V':=s.at_) (st:=w.st f) (h.hd wo hf hb).sm.1;have l2:=Ny (V':=s.at_) (st:=w.st (1-f)) (h.hd wo hf.flip hb).sm.1;change(recR s.at_ (w.st f) (ns f)++(recR s.at_ (w.st (1-f)) (ns (1-f))++([]++[]))).length<=12/\∀r∈recR s.at_ (w.st f) (ns f)++(recR s.at_ (w.st (1-f)) (ns (1-f))++([]++[])),En s.blocks r;rw[bG,bG];show{by rw[aV];show aC (jj ‹_› ‹_›) (nle rfl),λr hr=>(aZ.mp hr).elim (one f hf r) (one (1-f) hf.flip r)}
variable{due:Oct}
theorem Sr{rs:List Row}:∀{s:DS},(exec s rs).2.ar.length<=s.ar.length+rs.length:=by
 induction rs with
 |nil=>show bC _
 |cons r rs ih=>
  intro s;simp only[Bs]
  cases s.out r with
  |true=>show gY ..
  |false=>
   show aC (ih (s:=s.stp r)) ?_;simp only[cK]
   induction r using Option.casesOn with
   |none=>change 0+_<=_;show lin 21073329524098 226 tt
   |some p=>change(s.ar++[(p.1,p.2)]).length+_<=_;rw[aV];change s.ar.length+1+_<=_;show lin 674348625209410 7 tt
section
variable{ns:List (bY×aY)}{sl:List (Option V)}
theorem Ss(h:ev F ns 60 e sl H KR):evS F ns KR (.ret e) KN sl H:=h
theorem Ow(h:KN sl H):evS F ns KR .done KN sl H:=h
theorem Xj{K:Bool->AH->Prop}{b:Bool}(h:K b H):evB K (.bool b) H:=h
theorem bifF{P Q:Prop}(h:Q):bif false then P else Q:=h
theorem and3(x:∃e1 e2 e3 p,e=.BoolOp .And [e1,e2,e3] p/\tr ns gT 50 false e1=x1/\tr ns gT 50 false e2=x2/\tr ns gT 50 false e3=x3)
  (h:ev F ns 60 x1 sl H (evB λb H1=>bif b then ev F ns 60 x2 sl H1 (evB λb H2=>bif b then ev F ns 60 x3 sl H2 K else K (.bool false) H2) else K (.bool false) H1)):ev F ns (n+1) (.raw e) sl H K:=by
 apply Y;obtain⟨e1,e2,e3,p,rfl,t1,t2,t3⟩:=x;show WE.bop (WO.and ((exE Al t1 h).mono λv H1 k=>?_));apply @KB Y _ _;obtain⟨b,e9,k⟩:=M7 v H1 k;rw[e9];show{b,rfl,?_}
 induction b using Bool.casesOn with
 |false=>show k
 |true=>
  show WO.and ((exE Al t2 k).mono λv H1 k=>?_);apply @KB Y _ _;obtain⟨b,e9,k⟩:=M7 v H1 k;rw[e9];show{b,rfl,?_};clear e9;induction b using Bool.casesOn with
  |false=>show k
  |true=>show WO.one (exE Al t3 k)
end
theorem rrE:∃e1 e2 e3 p,B0 [] (stE 0 (Ad [4] (A7 (tst 43))))=.BoolOp .And [e1,e2,e3] p/\tr (A9 (tst 43)).names gT 50 false e1=.cmp .Eq (.call ↑667 ['B','C',.call ↑554 ['A','c']]) (.con (.str "right"))/\tr (A9 (tst 43)).names gT 50 false e2=.cmp .Eq (.af 'C' "image" []) 'D'/\tr (A9 (tst 43)).names gT 50 false e3=.cmp .Eq (.attr 'C' "unflushed") (.list []):=⟨_,_,_,_,rfl,rfl,rfl,rfl⟩
theorem rr_ok(B:BH H bx N (s.objs y++l))(hN:0<=N/\N<=10^5)(I:DI s 100)(hz:s.ar.length<=100)(hb:s.blocks=w.blocks)(wo:WOk w)(R:Recd w s due)(hK:∀H' N',N'<=N+200->BH H' bx N' l->K (.bool true) H'):
  WC F.u.u.u.u.u.u.u.u.u.u.u ↑674 [↑bx,w.val,↑y.a,.bytes due] H K:=by
 apply Y;obtain⟨ns,hd,R⟩:=R;show Aw 68 rfl rfl ?_;show(let K0:=_;let K5:=_;(?_:@evS K0 _ _ _ _ K5 _));show Bg (F:=F.bd.u.u.u.u.u.u.u.u.u) B (lin 0x7b00551fa5616cc01947e948 296 tt hN) '#' λd H1 d0 d1 B1=>?_;show Bg (F:=F.bd.u.u.u.u.u.u.u.u.u) B1 (lin 0xf600aa3f4ac2d980328fda948 296 tt hN) (dte tt) λc H2 c0 c1 B2=>?_;apply Y;obtain⟨o,h2,bok⟩:=B2.spl;show Jk (F:=F.bd.u.u.u.u.u.u.u.u) (fl:=d==1) h2 (lin 0x68b6561acc91a65bd90 9479 ⋯ d1 c0) λH3 h3=>?_;apply Y;have h3:HL H3 ((s.ai (d==1) (1-d+c)).objs y++(l++[(bx,o)])):=h3;obtain⟨I1,b1,at1⟩:=I.ai (fl:=d==1) (c:=1-d+c);show Bg (F:=F.bd.u.u.u.u.u.u.u.u.u) (BH.jn h3 bok) (lin 0x1ec01547e9585b300651fb5a948 296 tt hN) '#' λf H4 f0 f1 B4=>?_;apply Y;have hf:K2 f:=k2I f0 f1;have R:=R (d==1) (1-d+c) f (lin 0x68b6561acc91a65bd90 9479 ⋯ d1 c0) hf;have hd1:Kt w (s.ai (d==1) (1-d+c)) ns:={by rw[at1];show hd.e,hd.own,hd.nd,hd.len};have ro:=Sp wo hf hd1 I1 (b1.trans hb);have rx:=I1.less (b':=80+(recs w (s.ai (d==1) (1-d+c)) ns f 3).length) (aC (fC ro.1 80) (nle tt));obtain⟨s',D',e',es⟩:=DI.runX rx ro.2;have ul:=Sr (s:=s.ai (d==1) (1-d+c)) (rs:=recs w (s.ai (d==1) (1-d+c)) ns f 3);have uz:(s.ai (d==1) (1-d+c)).ar=s.ar:=by unfold DS.ai;cases d==1<;>rfl
 rw[uz]at ul;have go:∀{H:AH}{u:aK}{o:AObj}{N':Int},N'<=N+3->BoxO N' o->HL H ((exec (s.ai (d==1) (1-d+c)) (recs w (s.ai (d==1) (1-d+c)) ns f 3)).2.objs {y with u:=u}++(l++[(bx,o)]))->evS F.u.u.u.u.u.u.u.u.u.u.bd (A9 (tst 43)).names K (.set 2 (.af 'C' "after" [(.call ↑559 ['A',(.call (.builtin "len") [(.attr 'C' "unflushed")])])]) (.ret (.raw (B0 [] (stE 0 (Ad [4] (A7 (tst 43)))))))) (λi H'=>K .none H') [some ↑bx,some w.val,some ↑y.a,some (.bytes due),some (.int d)] H:=λ{H u o N'}hN' bok h=>by
  have so:(exec (s.ai (d==1) (1-d+c)) (recs w (s.ai (d==1) (1-d+c)) ns f 3)).2.Ok:=by
   rcases es with e|e<;>rw[e]
   .show D'.ok
   .show D'.dead
  have ad:∀ps,DI ((exec (s.ai (d==1) (1-d+c)) (recs w (s.ai (d==1) (1-d+c)) ns f 3)).2.aft ps) 1000/\((exec (s.ai (d==1) (1-d+c)) (recs w (s.ai (d==1) (1-d+c)) ns f 3)).2.aft ps).blocks=s'.blocks:=λps=>by
   rcases es with e|e<;>rw[e]
   .show D'.aft
   .show D'.aft (ps:=ps)
  generalize (exec (s.ai (d==1) (1-d+c)) (recs w (s.ai (d==1) (1-d+c)) ns f 3)).2=s1 at h so ad R ul;have ul:s1.ar.length<=112:=aC ul (jj ‹_› ro.1);have zl:(unV s1.ar).length=s1.ar.length:=aA ..;show Av.at h 0 1 rfl rfl Aj (Ao 23 rfl) rfl (Aa.at h 0 1 rfl rfl Aj (A8 16) rfl (WC.bg {rfl,h.get 4 rfl} (by rw[zl];show lin 0x9c092cd8d32188290a047e843 337159 tt hz ro.1 ‹_›) ?_));rw[zl];show So (F:=F.bd.u.u.u.u.u.u.u.u) (BH.jn h bok) (by lia) (lin 0x9c092cd8d321882f67d1ca05940d83 11048026433 tt hz ro.1 ‹_›) λps H5 rise B5=>?_;apply Y;obtain⟨o5,h5,bok5⟩:=B5.spl;show Oj (F:=F.bd.u.u.u.u.u.u.u) (x:={y with u:=u}) h5 so rise.lt ?_ λy2 H6 h6=>?_
  .have:=Mh (N:=ps) (U:=(cG 112).map λ(n:Nat)=>(n:Int)) (rise.u.imp λh=>by show lin 906608128336 295 tt h) λn hn=>by
    have:=rise.lt n hn;show aE.mpr {n.toNat,fW.mpr (lin 0x27034b3644c88313db411585b38b40a870e04c 482714887 tt hz ro.1 ‹_› this (bD this.1)),by show lin 31172969472073 9699623 tt (bD this.1)}
   rw[aA,dR]at this;show lin 0x1238702901547e841 263 tt this
  have h7:HL H6 ((s1.aft ps).objs y2++(l++[(bx,o5)])):=h6.sub (.append (.refl _) (bW ..));obtain⟨A,ab⟩:=ad ps;obtain⟨ns2,hd2,R2⟩:=R ps rise;generalize s1.aft ps=s2 at h7 A ab hd2 R2;have ab2:s2.blocks=w.blocks:=ab.trans (e'.trans (b1.trans hb));show Ss ?_;apply @ev _ _ _ _ Y _ _;with_reducible apply @ev Y _ _ _ _ _ _;show and3 rrE ?_
  apply @ev _ _ _ _ _ _ Y;show Bg (F:=F.bd.u.u.u.u.u.u.u.u.u) (BH.jn h7 bok5) (by lia) '#' λf2 H8 f20 f21 B8=>?_;have hf2:K2 f2:=k2I f20 f21;obtain⟨r1,r2,r3⟩:=R2 f2 hf2;obtain⟨o8,h8,bok8⟩:=B8.spl;have ro2:=Sp wo hf2 hd2 A ab2;show Gw (F:=F.bd) (b:=900) h8 (A.less (lin 0x4fd1c94b7c2700 7 tt)) ab2 wo hf2 hd2 (λe=>by rw[r1]at e;rcases e) λH9 s3 x z0 z1 M=>?_;have e3:=M.ex;rw[e3]at r2 r3;have D3:=M.di;have bl3:=M.bl;obtain⟨u9,g,C,i⟩:=M.c;obtain⟨c9,h9,i⟩:=C;have h9:=h9.only;show W2.eqS ?_;have vz:s3.view.length=s3.blocks.toNat:=Dl;have bl:=D3.blocks;have fz:s3.view.flatten.length<=2^20:=by rw[Hl D3.vlen,vz];show lin 0x7b3056145b716814ea08e849 12884901160 tt bl (bD (bH '#' bl.1))
  show Av.at h9 0 1 rfl rfl Aj (Ao 24 rfl) rfl (Kh (F:=F.bd.u.u.u.u.u.u.u.u.u) (x:={y2 with u:=u9}) h9 D3.ok bl.1 fz (W2.eqY ?_));rw[show s3.view.flatten=due from r2,beq_self_eq_true];show Aa.at h9 0 1 rfl rfl Aj (A8 16) rfl {bV _,.data (W2.eqL (o:=some u9) (o':=none) (xs:=unV s3.ar) (ys:=[]) {rfl,h9.get 4 rfl} ⟨rfl,rfl⟩ Sms.nil λt ht=>?_)};rw[show t=true from ht.mpr (by rw[show s3.ar=[] from r3];rfl)];show hK H9 _ (lin 0x27024b3636487b315321882c9191c356540953 11871495 tt hz ro.1 hN' ‹_›) {o8,h9.sub (.trans (bW ..) (.trans (bW ..) (bW ..))),bok8}
 obtain⟨o4,h4,bok4⟩:=B4.spl;show Gw (F:=F.bd) (b:=80) h4 (I1.less (gg _ _)) (b1.trans hb) wo hf hd1 (λe H' u h=>?_) λH' s2 x z0 z1 M=>?_
 .show W2.eqS ?_;show Xj (bifF (Ow ?_));show go (dY (by lia)) bok4 h
 .show W2.eqS ?_;show Xj (bifF (Ow ?_));have ex:=M.ex;obtain⟨u9,g,C,i⟩:=M.c;obtain⟨c9,h9,i⟩:=C;have h9:=(h9.only).sub (.append (.refl (s2.objs {y with u:=u9})) (.trans (bW ..) (bW ..)));show go (N':=N+1+1+1) (u:=u9) (dY (by lia)) bok4 ?_;rw[ex];show h9
theorem V3(h:vs.all (mX 8)=true):eQ [.Tuple ts kt pt] (.Tuple vs kv pv) env=pure none:=by
 unfold eQ
 dsimp only
 split
 .rfl
 split
 .rfl
 split
 .rfl
 first|rfl|show if_pos h
inductive BoJ(H:AH)(v:V)(cs:List Int)(sq:Sq)(i:Nat)(sl:List (Option V))(H':AH):Prop
 |mk(u:Option V)(g s:Int)(hs:sl=[some v,some (.int g),some (.int s),u])(e:sq=.vals none (cs.map .int))(hg:0<=g/\g<10^120)(hy:0<=s/\s<2147483629)(p:H'=H)
def boxSt:St:=.set 2 (.bin .Mod (.bin .Add (.bin .Add (.bin .Mult 'C' (.con (.int 48271))) (.bin .Mult 'D' (.con (.int 69621)))) (.con (.int 53))) (.con (.int 2147483629))) (.ite (.and (.cmp .Eq 'B' 'a') (.cmp .GtE (.call (.builtin "abs") ['D']) (.bin .Pow 'k' 's'))) (.set 1 (.bin .Mod (.bin .Sub (.call (.builtin "abs") ['D']) (.bin .Pow 'k' 's')) (.bin .Pow 'k' (.con (.int 120)))) .done) .done .done)
theorem box_ok{cs:List Int}(as:AsL H v o (cs.map .int))(hz:cs.length<=100)(h:HL H l)(hK:∀bx H',Ext H H'->BH H' bx 0 l->K ↑bx H'):WC F.u ↑547 [v] H K:=by
 have zl:(cs.map V.int).length=cs.length:=aA ..;show Aw 47 rfl rfl ?_;show WS1.assign (λb b=>rfl) (λb=>V3 rfl) (λb b=>rfl) (exE (ex:=.tup ['a',.con (.int 29)]) Al rfl {(dte tt:2<=2^20),WG.nms (is:=[1,2]) rfl rfl rfl rfl {_,rfl,?_}});obtain⟨c2,ec⟩:∃c2:List Int,H0 (cs.map .int) none (some 24) none=c2.map .int:=by
  unfold H0;generalize sliceRange _ _ _=ks
  induction ks with
  |nil=>show{[],rfl}
  |cons k ks ih=>
   obtain⟨c2,e⟩:=ih;rw[jv,bK]
   cases cs[k]? with
   |none=>show⟨c2,e⟩
   |some c=>show⟨c::c2,by rw[e];rfl⟩
 show WS1.f6 (is:=[3]) (st:=boxSt) (BoJ H v c2) rfl rfl (λb b=>rfl) rfl rfl ?_ (λsq i sl H' j=>?_) (λsq i sl H' w j e=>?_) λsq i sl H' j e=>?_
 .apply @WI _ _ _ _ Y;show WI.ex (ex:=.slice 'A' .none (.some 'y') .none) rfl (.list o _ as (λy=>absurd y (dte tt)) (lin 686256453963842 10503 tt hz zl) {none,_,.d,.vals,_,⋯,none,0,29,rfl,congrArg _ ec,dte tt,dte tt,rfl})
 .obtain⟨u,g,s,rfl,rfl,hg,hy,rfl⟩:=j;trivial
 .apply @evS _ _ _ _ Y _ _;obtain⟨u,g,s,rfl,rfl,hg,hy,rfl⟩:=j;apply @evS _ _ _ _ _ Y _;obtain⟨c,e1,rfl⟩:=Bt e;show W2.mul (.of_right (nle tt)) (W2.mul (.of_right (nle tt)) (W2.mod (dte tt) ?_));apply @evS _ _ _ _ _ Y _;have sy:∀a:Int,0<=a.fmod 2147483629/\a.fmod 2147483629<2147483629:=λa=>{mI a '#',nV a '#'};have s2:=sy (s*48271+c*69621+53);show bifB (λb=>?_) λb=>⟨_,g,_,rfl,rfl,hg,s2,rfl⟩;apply @ev _ _ _ _ _ _ Y;show WC.abs (W2.pow '#' '#' (bifD (λb=>?_) λb=>⟨_,g,_,rfl,rfl,hg,s2,rfl⟩));show WC.abs (W2.pow '#' '#' (W2.pow (dte tt) (dte tt) (W2.mod (dte tt) {_,_,_,rfl,rfl,{mI _ '#',nV _ '#'},s2,rfl})))
 .clear as;apply Y;obtain⟨u,g,s,rfl,rfl,hg,hy,rfl⟩:=j;show{_,rfl,(nle tt:3<=2^20),.own λbx hb=>hK bx _ (Ext.new (λb b e=>e) hb) {_,(h.new hb _).perm (fV ..).symm,.mk g s 0 hg hy {bM _,bM _}}}
def lySt(f a t p0 p1:Nat)(k:Nat):Nat:=if k=f then a else a+(if f=0 then p0 else p1)+1+t
def F7(s0 s1 p0 p1:Nat):List Nat:=(cG (p0+1)).map (s0+·)++(cG (p1+1)).map (s1+·)
def W0(s0 s1 p0 p1:Nat):List Nat:=(cG (p0+p1+8)).filter λn=>!(F7 s0 s1 p0 p1).contains n
def lyOk(p0 p1 s0 s1:Nat):Bool:=(W0 s0 s1 p0 p1).length==6&&(decide (s0+(p0+1)<=p0+p1+8)&&(decide (s1+(p1+1)<=p0+p1+8)&&(decide (s0+(p0+1)<=s1)||decide (s1+(p1+1)<=s0))))
theorem ly_all:∀p0:Fin 3,∀p1:Fin 3,∀f:Fin 2,∀a:Fin 3,∀t:Fin 4,lyOk (p0+1) (p1+1) (lySt f a t (p0+1) (p1+1) 0) (lySt f a t (p0+1) (p1+1) 1)=true:=by decide +kernel
structure Ly(p0 p1 s0 s1:Nat)(D:List Nat):Prop where
 e:W0 s0 s1 p0 p1=D
 len:D.length=6
 p:(1<=p0/\p0<=3)/\(1<=p1/\p1<=3)
 b0:s0+(p0+1)<=p0+p1+8
 b1:s1+(p1+1)<=p0+p1+8
 sep:s0+(p0+1)<=s1\/s1+(p1+1)<=s0
theorem ly_of{p0 p1 f a t:Nat}(h0:1<=p0/\p0<=3)(h1:1<=p1/\p1<=3)(hf:f<2)(ha:a<3)(ht:t<4):∃D,Ly p0 p1 (lySt f a t p0 p1 0) (lySt f a t p0 p1 1) D:=by
 apply Y;have h:=ly_all {p0-1,by lia} {p1-1,by lia} ⟨f,hf⟩ ⟨a,ha⟩ ⟨t,ht⟩
 dsimp only at h
 rw[show p0-1+1=p0 by lia,show p1-1+1=p1 by lia]at h;obtain⟨e1,h⟩:=aT.mp h;obtain⟨e2,h⟩:=aT.mp h;obtain⟨e3,h⟩:=aT.mp h;show{_,rfl,beq_iff_eq.mp e1,⟨h0,h1⟩,dte e2,dte e3,(iG.mp h).imp dte dte}
theorem Ly.mem(L:Ly p0 p1 s0 s1 D)(h:n∈D):n<p0+p1+8/\¬ (s0<=n/\n<s0+(p0+1))/\¬ (s1<=n/\n<s1+(p1+1)):=by
 rw[<- L.e]at h;apply Y;obtain⟨h1,h2⟩:=iZ.mp h;have h2:n∉F7 s0 s1 p0 p1:=λy=>by rw[j5.mpr y]at h2;show aR h2
 unfold F7 at h2;show{fW.mp h1,λy=>h2 (aU _ (aE.mpr {n-s0,fW.mpr (by lia),by lia})),λy=>h2 (aG _ (aE.mpr {n-s1,fW.mpr (by lia),by lia}))}
theorem Ly.nd(L:Ly p0 p1 s0 s1 D):D.Nodup:=by
 simp only[<- L.e];show List.nodup_range.filter _
def lyW(p0 p1 s0 s1:Nat)(d0 d1 d2 d3 d4 d5:Nat)(e:Int->Int)(h:Int->Int)(r:Int):W:=
 {st:=λk=>if k=0 then s0 else s1,pl:=λk=>if k=0 then p0 else p1,blocks:=(p0:Int)+p1+8,own:=λk=>if k=0 then [(d0:Int),d2,d4] else [(d1:Int),d3,d5],each:=e,held:=h,room:=r}
theorem lyW_ok{e h:Int->Int}{r:Int}(L:Ly p0 p1 s0 s1 [d0,d1,d2,d3,d4,d5])(he:(1<=e 0/\e 0<=p0)/\(1<=e 1/\e 1<=p1))(hh:h 0∈[(d0:Int),d2,d4]/\h 1∈[(d1:Int),d3,d5])(hr:(p0:Int)+p1+3<=r/\r<=p0+p1+5):WOk (lyW p0 p1 s0 s1 d0 d1 d2 d3 d4 d5 e h r):=by
 apply @WOk Y;have P:=L.p;have b0:=L.b0;have b1:=L.b1;have sp:=L.sep;have mem:∀{k n:Int},K2 k->n∈(lyW p0 p1 s0 s1 d0 d1 d2 d3 d4 d5 e h r).own k->∃m:Nat,n=m/\m∈[d0,d1,d2,d3,d4,d5]:=λ{k n}hk hn=>by
  rcases hk with rfl|rfl
  .have hn:n∈[(d0:Int),d2,d4]:=hn;simp only[aS,aD,or_false]at hn;rcases hn with rfl|rfl|rfl
   .show{d0,rfl,by simp}
   .show{d2,rfl,by simp}
   .show{d4,rfl,by simp}
  .have hn:n∈[(d1:Int),d3,d5]:=hn;simp only[aS,aD,or_false]at hn;rcases hn with rfl|rfl|rfl
   .show{d1,rfl,by simp}
   .show{d3,rfl,by simp}
   .show{d5,rfl,by simp}
 have nd:=L.nd;simp only[bX,aS,aD,or_false,not_or]at nd;show{λk hk=>?_,λk hk=>?_,λk hk=>{?_,λn hn=>?_},?_,λk hk=>?_,λk i n hk hi hn=>?_,λn hn=>?_,λn hn hn2=>?_,λk hk=>?_,λk hk=>?_,?_}
 .rcases hk with rfl|rfl
  .change(1:Int)<=(p0:Int)/\(p0:Int)<=3;show lin 0xf7a47b124577a47b0a4377b07ba05940dc2 11796839 tt P
  .change(1:Int)<=(p1:Int)/\(p1:Int)<=3;show lin 0xf7a47b0a4377a47b124577b07ba05940dc2 11862377 tt P
 .rcases hk with rfl|rfl
  .show he.1
  .show he.2
 .rcases hk with rfl|rfl<;>rfl
 .apply Y;obtain⟨m,rfl,hm⟩:=mem hk hn;have:=L.mem hm;change(0:Int)<=m/\(m:Int)<(p0:Int)+p1+8;show lin 0x7be0f54aa307429083b07aa55110290915246e43105ed92372a0e82a05940d85 8618241 tt this
 .change(2:Int)<=(p0:Int)+p1+8/\(p0:Int)+p1+8<=100;show lin 0xf7a47b124577a47b0a4377b31246e541502c92372a0a8116c2 12155104321 tt P
 .rcases hk with rfl|rfl
  .change(0:Int)<=s0/\(s0:Int)+(p0+1)<=(p0:Int)+p1+8;show{cr _,gf.mpr ‹_›}
  .change(0:Int)<=s1/\(s1:Int)+(p1+1)<=(p0:Int)+p1+8;show{cr _,gf.mpr ‹_›}
 .obtain⟨m,rfl,hm⟩:=mem hk hn;have:=L.mem hm;rcases hi with rfl|rfl
  .change ¬ ((s0:Int)<=m/\(m:Int)<s0+(p0+1));lia
  .change ¬ ((s1:Int)<=m/\(m:Int)<s1+(p1+1));lia
 .have hn:(s0:Int)<=n/\n<s0+(p0+1):=hn;change ¬ ((s1:Int)<=n/\n<s1+(p1+1));rcases sp with q|q;show lin 0x3db2ad09419585a0d219548383db2ad05409585a04c 10536 tt hn q;show lin 0x3db2ad09419585a0d239544183db2ad05409585a04c 11559 tt hn q
 .have hn:n∈[(d0:Int),d2,d4]:=hn;have hn2:n∈[(d1:Int),d3,d5]:=hn2;simp only[aS,aD,or_false]at hn hn2;obtain⟨⟨h01,h02,h03,h04,h05⟩,⟨h12,h13,h14,h15⟩,⟨h23,h24,h25⟩,⟨h34,h35⟩,h45,c⟩:=nd;have z:∀{a b:Nat},a≠b->n=(a:Int)->n=(b:Int)->False:=λh e1 e2=>h (lV.mp (e1.symm.trans e2));rcases hn with e|e|e
  .show hn2.elim (z h01 e) λh=>h.elim (z h03 e) (z h05 e)
  .show hn2.elim (z (fQ h12) e) λh=>h.elim (z h23 e) (z h25 e)
  .show hn2.elim (z (fQ h14) e) λh=>h.elim (z (fQ h34) e) (z h45 e)
 .have mp:∀{l:List Nat},l.Nodup->(l.map λ(n:Nat)=>(n:Int)).Nodup:=λh=>h.map _ λa b h e=>h (lV.mp e);rcases hk with rfl|rfl
  .show mp (L.nd.sublist (.cons_cons d0 (.cons d1 (.cons_cons d2 (.cons d3 (.cons_cons d4 (.cons d5 .slnil)))))))
  .show mp (L.nd.sublist (.cons d0 (.cons_cons d1 (.cons d2 (.cons_cons d3 (.cons d4 (.cons_cons d5 .slnil)))))))
 .rcases hk with rfl|rfl
  .show hh.1
  .show hh.2
 .change(p0:Int)+p1+3<=r/\r<=20;show{by show lin 0xf648bb950540958590f72a0a8161643dca82a04a 295 tt hr,by show lin 0x3d922ee541502561643dca82a05ef48f6248aef48f61486ecf94a 438600 tt hr P}
theorem WS1.frz{x:bY}{k:aY}{v:V}{st:gQ}(e:H a=some o)(hp:Frz o v)(hm:(x,k,some ↑a)∈m)(hs:SetAt m x k v m')(h:WS1 F KR m' (H.del a) st KN):WS1 F KR m H st KN:=λD t P s ok=>by
 obtain⟨ok2,r⟩:=ok.freeze e hp;show h D t _ s (ok2.view hm hs λy q=>by subst q;show r)
theorem HL.del(h:HL H ((a,o)::L)):HL (H.del a) L:=by
 have nd:=bX.mp h.nd;show{λp hp=>(if_neg λ(e:p.1=a)=>nd.1 (aE.mpr ⟨p,hp,e⟩)).trans (h.at_ p (.tail _ hp)),nd.2}
theorem BH.del(h:BH H bx N ((a,o)::L)):BH (H.del a) bx N L:=let ⟨q,h,ok⟩:=h;{q,HL.del h,ok}
theorem BH.new{a:aK}(h:BH H bx N L)(e:H a=none)(o:AObj):BH (H.set a o) bx N ((a,o)::L):=let ⟨q,h,ok⟩:=h;{q,h.new e o,ok}
theorem BH.set(h:BH H bx N ((a,o)::L))(o':AObj):BH (H.set a o') bx N ((a,o')::L):=let ⟨q,h,ok⟩:=h;{q,h.set 0 o' rfl,ok}
theorem pl_at{d:Nat}(h:d<5):∃p:Nat,([.int 1,.int 2,.int 3,.int 2,.int 3]:List V)[d]?=some (.int p)/\1<=p/\p<=3:=Vy (f:=λn:Nat=>.int n) (l:=[1,2,3,2,3]) (p:=λp=>1<=p/\p<=3) rfl h
def ii(l:List Nat):List V:=l.map λ(n:Nat)=>.int n
def pk{α:Type}(i:Nat)(a b:α):α:=if i=0 then a else b
def lgU(p0 p1 s0 s1:Nat):Nat->List Nat
 |0=>[]
 |1=>(cG (p0+1)).map (s0+·)
 |_=>F7 s0 s1 p0 p1
inductive LgJ(H:AH)(p0 p1 s0 s1:Nat)(sq:Sq)(i:Nat)(xs:List V)(H':AH):Prop
 |mk(e:sq=.rng 0 1 2)(hx:xs=ii (lgU p0 p1 s0 s1 i))(hi:i<=2)(p:H'=H)
inductive LgK(H:AH)(p0 p1 s0 s1:Nat)(sq:Sq)(i:Nat)(sq1:Sq)(k:Nat)(xs:List V)(H':AH):Prop
 |mk(e:sq=.rng 0 1 2)(hi:i<2)(e1:sq1=.rng 0 1 (pk i p0 p1+1))(hx:xs=ii (lgU p0 p1 s0 s1 i++(cG k).map (pk i s0 s1+·)))(hk:k<=pk i p0 p1+1)(p:H'=H)
inductive DtJ(H:AH)(m:Nat)(lg:List Nat)(sq:Sq)(i:Nat)(xs:List V)(H':AH):Prop
 |mk (e:sq=.rng 0 1 m) (hx:xs=ii ((cG i).filter λn=>!lg.contains n)) (hi:i<=m) (p:H'=H)
inductive EaJ(bx:aK)(N:Int)(L:List (aK×AObj))(p0 p1:Nat)(sq:Sq)(i:Nat)(xs:List V)(H':AH):Prop
 |mk(e0 e1:Int)(e:sq=.rng 0 1 2)(hx:xs=([.int e0,.int e1]:List V).take i)(h0:1<=i->1<=e0/\e0<=p0)(h1:2<=i->1<=e1/\e1<=p1)(hi:i<=2)(B:BH H' bx (N+i) L)
theorem worldE:∃kks es p,B0 [] (stE 0 (Ad [6] (A7 (tst 26))))=.Dict kks es p/\kks.map Q9=[ce "starts","places","blocks","own","each","held","room"].map some/\es.map (tr (A9 (tst 26)).names gT 50 false)=['F','B','G',.list [.slice 'I' .none .none (.some 'c'),.slice 'I' (.some 'b') .none (.some 'c')],.raw (B0 [4] (stE 0 (Ad [6] (A7 (tst 26))))),.list [.sub 'I' (.bin .Mult 'c' (.call ↑554 ['A','d'])),.sub 'I' (.bin .Add 'b' (.bin .Mult 'c' (.call ↑554 ['A','d'])))],.bin .Add (.bin .Add (.bin .Add (.sub 'B' 'a') (.sub 'B' 'b')) 'd') (.call ↑554 ['A','d'])]:=⟨_,_,_,rfl,rfl,rfl⟩
theorem Su(a b:List Nat):ii (a++b)=ii a++ii b:=by unfold ii;rw[aJ]
theorem V4(B:BH H bx N L)(hN:0<=N/\N<=10^4)(hK:∀w H' N',WOk w->N'<=N+20->BH H' bx N' L->K w.val H'):WC F.u.u ↑571 [↑bx] H K:=by
 show WC.frz (Aw 51 rfl rfl (Kr ?_));apply @ev _ _ _ _ _ _ Y;show WE.sub (λc c=>rfl) (exE (ex:=.list ['b','c','d','c','d']) Al rfl {(by decide:5<=2^20),.data (exE (ex:=.call ↑554 ['A','f']) Al ⋯ (Bg (F:=F.bd) B (bH (cL ‹_›) '#') '#' λd H1 d0 d1 B1=>?_))});apply @G2 _ _ _ _ Y;obtain⟨p0,q0,r0⟩:=pl_at (d:=d.toNat) (by lia);show G2.list .d d0 (by lia) q0 ?_;show WE.sub (λc c=>rfl) (exE (ex:=.list ['b','c','d','c','d']) Al rfl {(by decide:5<=2^20),.data (exE (ex:=.call ↑554 ['A','f']) Al rfl (Bg (F:=F.bd) B1 (gB (cL ‹_›) '#') '#' λd' H2 d0' d1' B2=>?_))});apply Y;obtain⟨p1,q1,r1⟩:=pl_at (d:=d'.toNat) (by lia);show G2.list .d d0' (by lia) q1 {(by decide:2<=2^20),.data ?_};show WS1.swp (is:=[2,3,4]) (ex:=.tup [.call ↑554 ['A','c'],.call ↑554 ['A','d'],.call ↑554 ['A','e']]) rfl rfl ?_;show(let K4:=_;let K6:=_;(?_:@ev _ _ _ _ K4 _ K6));show Bg (F:=F.bd) B2 (lin 0x1ec01147e9585b300651fb5a948 296 tt hN) '#' λf H3 f0 f1 B3=>Bg (F:=F.bd) B3 (lin 0x3d80228fd2b0b6600ca3f6b5a948 296 tt hN) '#' λa H4 a0 a1 B4=>Bg (F:=F.bd) B4 (lin 0x7b00451fa5616cc01947ed6b5a948 296 ⋯ hN) '#' λt H5 t0 t1 B5=>{(by decide:3<=2^20),rfl,_,rfl,?_};apply @evS _ _ _ _ _ Y _;obtain⟨f,rfl⟩:=fE f0;apply @evS _ _ _ _ Y _ _;obtain⟨a,rfl⟩:=fE a0;apply @evS _ _ Y _ _ _ _;obtain⟨t,rfl⟩:=fE t0;obtain⟨D,ly⟩:=ly_of r0 r1 (f:=f) (a:=a) (t:=t) (gf.mp ‹_›) (gf.mp ‹_›) (gf.mp ‹_›);have hf:K2 (f:Int):=k2I f0 f1;show WS1.asgC (i:=5) (j:=6) (ky:=.local) (ex:=.tup [.list ['D','D'],.bin .Add (.bin .Add (.sub 'B' 'a') (.sub 'B' 'b')) 'i']) ⋯ ⋯ (.inl rfl) rfl rfl rfl {(by decide:2<=2^20),.own λsa hsa=>?_};show G2.list (w:=.int p0) .d '#' '#' rfl (G2.list (w:=.int p1) .d '#' '#' rfl {(by decide:2<=2^20),rfl,_,rfl,?_});show(let K2:=_;let K5:=_;let K6:=_;(?_:@evS _ _ K2 _ _ K5 K6));have B6:=B5.new hsa (.list [.int a,.int a]);have pf:([.int p0,.int p1]:List V)[(f:Int).toNat]?=some (.int (if f=0 then p0 else p1:Nat)):=by
  apply Y;rcases hf with e|e
  .obtain rfl:f=0:=i9.inj e;rfl
  .obtain rfl:f=1:=i9.inj e;rfl
 show G2.list .d f0 (lin 0x345ba05a1f08fda041 263 tt f1) pf ?_;show U3.list (B6.tl.get 0 rfl) (by change(0:Int)<=1-f;show lin 0xd16e8164e81bd81 263 tt f1) (by change(1-f:Int)<2;show lin 899501264321 225 tt) (show 2<=2^40 by decide) ?_;have B7:=B6.set (.list (([.int a,.int a]:List V).set (1-(f:Int)).toNat (.int (a+(if f=0 then p0 else p1:Nat)+1+t))));generalize hst:([.int a,.int a]:List V).set (1-(f:Int)).toNat (.int (a+(if f=0 then p0 else p1:Nat)+1+t))=st at B7 ⊢;have est:st=[.int (lySt f a t p0 p1 0),.int (lySt f a t p0 p1 1)]:=by
  rw[<- hst];rcases hf with e|e
  .obtain rfl:f=0:=i9.inj e;show congrArg (λv=>[V.int a,.int v]) (show(a:Int)+p0+1+t=((a+p0+1+t:Nat):Int) by rfl)
  .obtain rfl:f=1:=i9.inj e;show congrArg (λv=>[V.int v,.int a]) (show(a:Int)+p1+1+t=((a+p1+1+t:Nat):Int) by rfl)
 clear hst;subst est;generalize lySt f a t p0 p1 0=s0 at B7 ly ⊢;generalize lySt f a t p0 p1 1=s1 at B7 ly ⊢;show WS1.frz (x:="starts") (k:=.cell) (v:=.list [.int s0,.int s1]) (B7.tl.get 0 rfl) .list (Ah (i:=5) ⋯) (Bc (i:=5) ⋯) ?_;have B8:=B7.del;generalize AH.del _ sa=H8 at B8 ⊢;have pki:∀{i:Nat},i<2->([.int p0,.int p1]:List V)[(0+(i:Int)*1).toNat]?=some (.int ((pk i p0 p1:Nat):Int))/\([.int s0,.int s1]:List V)[(0+(i:Int)*1).toNat]?=some (.int ((pk i s0 s1:Nat):Int))/\lgU p0 p1 s0 s1 (i+1)=lgU p0 p1 s0 s1 i++(cG (pk i p0 p1+1)).map (pk i s0 s1+·)/\(lgU p0 p1 s0 s1 i).length<=4/\pk i p0 p1<=3:=λ{i}hi=>by
  rcases lt2 hi with rfl|rfl
  .show{rfl,rfl,rfl,bV _,r0.2}
  .show{rfl,rfl,rfl,by change((cG (p0+1)).map (s0+·)).length<=4;rw[aA,dR];show dW (cL ‹_›) (nle rfl),r1.2}
 show WS1.coC (j:=7) ⋯ rfl rfl (WCo.n2 (j:=1) (j1:=2) (ex:=.bin .Add (.sub 'F' 'B') 'C') (LgJ H8 p0 p1 s0 s1) (LgK H8 p0 p1 s0 s1) ⋯ ⋯ ⋯ rfl (λc c=>rfl) (λc c=>rfl) rfl (λc=>rfl) ?_ (λsq i xs H' j=>?_) (λsq i sq1 k xs H' j=>?_) (λsq i xs H' v j e=>?_) (λsq i xs H' v j e sq1 k ys H3 u j1 e1=>?_) (λsq i sq1 k xs H' j e=>?_) λsq i xs H' j e=>?_)
 .show WI.rg (i:=10) (ex:=.con (.int 2)) ⋯ (λa a=>rfl) rfl {2,rfl,'#',.rng,rfl,rfl,'#',rfl}
 .obtain⟨rfl,rfl,hi,rfl⟩:=j;show eE
 .apply Y;obtain⟨rfl,hi,rfl,rfl,hk,rfl⟩:=j;obtain⟨c,c,c,h4,h5⟩:=pki hi;show{trivial,?_};unfold ii;rw[aA,aV,aA,dR];show lin 0x26a31249b0a47b1a7521043 337159 tt hk h4 h5
 .obtain⟨rfl,rfl,hi,rfl⟩:=j;obtain⟨hi2,e9⟩:=Dd e;rw[e9];obtain⟨h1,h2,h3,h4,h5⟩:=pki hi2;show WI.rg (i:=3) (ex:=.bin .Add (.sub 'E' 'B') 'b') rfl (λa a=>rfl) rfl (G2.list .d (by lia) (by lia) h1 {_,rfl,by change(0:Int)<=((pk i p0 p1:Nat):Int)+1/\((pk i p0 p1:Nat):Int)+1<=2^40;show lin 0x91ec2f605023f6b40b2b40d81 8618241 tt h5,.rng,rfl,hi2,rfl,by rw[List.range_zero,map_nil,bG],bV _,rfl})
 .obtain⟨rfl,rfl,hi,rfl⟩:=j;obtain⟨hi2,e9⟩:=Dd e;rw[e9];obtain⟨c,hi3,rfl,rfl,hk,rfl⟩:=j1;obtain⟨hk2,rfl⟩:=Dd e1;obtain⟨h1,h2,h3,h4,h5⟩:=pki hi2;show G2.list .d (by lia) (by lia) h2 {rfl,hi2,rfl,?_,hk2,rfl};rw[dF,aJ,<- aH,Su _ (pe _ [k])];show congrArg (_++[·]) (congrArg V.int ?_);change((pk i s0 s1:Nat):Int)+(0+(k:Int)*1)=((pk i s0 s1+k:Nat):Int);show lin 0xea48419482aed056a042 7175 tt
 .obtain⟨rfl,hi,rfl,rfl,hk,rfl⟩:=j;have he:=Ct e;obtain⟨h1,h2,h3,h4,h5⟩:=pki hi;obtain rfl:k=pk i p0 p1+1:=cA hk he;show{rfl,by rw[h3],hi,rfl}
 obtain⟨rfl,rfl,hi,rfl⟩:=j;obtain rfl:i=2:=cA hi (Ct e);show{_,rfl,?_};have i2:∀v∈ii (F7 s0 s1 p0 p1),∃j,v=.int j:=λv hv=>by
  obtain⟨j,c,e⟩:=aE.mp hv;show{j,e.symm}
 show WS1.coL (j:=8) ⋯ rfl tt rfl (WCo.f1 (j:=1) (ex:=.loc 1) (cx:=.cmp .NotIn 'B' 'C') (DtJ H' (p0+p1+8) (F7 s0 s1 p0 p1)) tt rfl rfl rfl rfl (λc c=>rfl) ?_ (λsq i xs H' j=>?_) (λsq i xs H' v j e=>?_) λsq i xs H' j e=>?_)
 .show WI.rg (i:=10) (ex:=.loc 6) ⋯ (λa a=>rfl) rfl {_,rfl,by change(0:Int)<=(p0:Int)+p1+8/\(p0:Int)+p1+8<=2^40;show lin 0x3d23d8521bbd23d8922bbd81408fd92372a0a816491b950540d82 12155104321 tt r0 r1,.rng,by rw[show((p0:Int)+p1+8).toNat=p0+p1+8 by rfl],rfl,bV _,rfl}
 .obtain⟨rfl,rfl,hi,rfl⟩:=j;show{trivial,?_};unfold ii;rw[aA];have:=dZ (λn=>!(F7 s0 s1 p0 p1).contains n) (cG i);rw[dR]at this;show lin 0x7a47b1a4777a47b224974c91b9106248829d044 14036296 tt r0 r1 hi this
 .obtain⟨rfl,rfl,hi,rfl⟩:=j;obtain⟨hi2,e9⟩:=Dd e;rw[e9];rw[fF,dH];show W2.notinL (o:=none) (xs:=ii (F7 s0 s1 p0 p1)) ⟨rfl,rfl⟩ i2 λb hb=>?_;have hb2:b = !(F7 s0 s1 p0 p1).contains i:=by
   rw[j4,hb,gq,<- jE,j5];show not_congr {λh=>by obtain⟨j,hj,e⟩:=aE.mp h;rcases e;show hj,λh=>bZ (f:=λ(n:Nat)=>V.int n) h}
  show bifB (λe=>{rfl,?_,hi2,rfl}) λe=>{rfl,?_,hi2,rfl}
  .rw[dF,dJ,Su,jK,<- hb2,e];rfl
  .rw[dF,dJ,Su,jK,<- hb2,e];show(bG _).symm
 obtain⟨rfl,rfl,hi,rfl⟩:=j;obtain rfl:i=p0+p1+8:=cA hi (Ct e);show{_,rfl,?_};rw[show(cG (p0+p1+8)).filter (λn=>!(F7 s0 s1 p0 p1).contains n)=D from ly.e];obtain⟨d0,d1,d2,d3,d4,d5,rfl⟩:=len6 ly.len;show Ss ?_;change WE _ (lc (A9 (tst 26)).names _) _ (B0 [] (stE 0 (Ad [6] (A7 (tst 26))))) _
 with_reducible show WE.dictX worldE ?_ ?_
 .show{rfl,'#','#'}
 intro dd hdd;have B9:=B8.new hdd (.aa []);have six:(ii [d0,d1,d2,d3,d4,d5]).length=6:=rfl;show .list none _ .d (λy=>nomatch y) (by rw[six];decide) (.list none _ .d (λy=>nomatch y) (by rw[six];decide) {(by decide:2<=2^20),.data ?_});rw[show H0 (ii [d0,d1,d2,d3,d4,d5]) none none (some 2)=ii [d0,d2,d4] by kernel_rfl,show H0 (ii [d0,d1,d2,d3,d4,d5]) (some 1) none (some 2)=ii [d1,d3,d5] by kernel_rfl];show WE.co (WCo.n1 (j:=1) (ex:=.bin .Add 'b' (.call ↑554 ['D',.sub 'E' 'B'])) (EaJ bx (N+1+1+1+1+1) ((dd,.aa [])::L) p0 p1) ⋯ ⋯ ⋯ rfl (λc c=>rfl) ?_ (λsq i xs H' j=>?_) (λsq i xs H' v j e=>?_) λsq i xs H' j e=>?_)
 .show WI.rg (i:=10) (ex:=.con (.int 2)) ⋯ (λa a=>rfl) ⋯ {2,rfl,'#',.rng,0,0,rfl,rfl,λh=>(absurd ‹_› '#'),λh=>(absurd ‹_› '#'),'#',by rw[dP,ci];show B9}
 .obtain⟨e0,e1,rfl,rfl,h0,h1,hi,B⟩:=j;show{trivial,?_};rw[dT];change min i 2<=_;show lin 624584937537 263 tt (dC _ _)
 .obtain⟨e0,e1,rfl,rfl,h0,h1,hi,B⟩:=j;obtain⟨hi2,rfl⟩:=Dd e;obtain⟨q1,c,c,c,q5⟩:=pki hi2;show G2.list .d (by lia) (by lia) q1 ?_;have q6:1<=pk i p0 p1:=by unfold pk;split<;>show cF ‹_›
  show Bg (F:=F.bd.cm) B (lin 0x7b00451fa5616ca16c2c01947eca81ad6b5a949 10536 tt hN hi2) (lin 0x48f61486ef67d1ca05940dc1 9666856 tt q5 q6) λd H2 dd0 dd1 B2=>?_;have B3:=B2.le (N':=N+1+1+1+1+1+((i+1:Nat):Int)) (lin 0x3254a86b5ad6a5aca81ad6b5a949 7 tt);rcases (show i=0\/i=1 by lia) with rfl|rfl
  .show{1+d,0,rfl,rfl,λc=>by have:d<(p0:Int):=dd1;lia,λh=>(absurd ‹_› (Nat.not_le_of_gt ‹_›)),'#',B3}
  .show{e0,1+d,rfl,rfl,λc=>h0 '#',λc=>by have:d<(p1:Int):=dd1;lia,'#',B3}
 obtain⟨e0,e1,rfl,rfl,h0,h1,hi,B10⟩:=j;obtain rfl:i=2:=cA hi (Ct e);have at6:∀{d:Int},0<=d->d<3->(∃n:Nat,(ii [d0,d1,d2,d3,d4,d5])[(2*d).toNat]?=some (.int n)/\(n:Int)∈[(d0:Int),d2,d4])/\∃n:Nat,(ii [d0,d1,d2,d3,d4,d5])[(1+2*d).toNat]?=some (.int n)/\(n:Int)∈[(d1:Int),d3,d5]:=λ{d}h1 h2=>by
  have:d=0\/d=1\/d=2:=by lia
  rcases this with rfl|rfl|rfl
  .show{{d0,rfl,.head _},d1,rfl,.head _}
  .show{{d2,rfl,.tail _ (.head _)},d3,rfl,.tail _ (.head _)}
  .show{{d4,rfl,.tail _ (.tail _ (.head _))},d5,rfl,.tail _ (.tail _ (.head _))}
 show Bg (F:=F.bd) B10 (lin 0xf6008a3f4ac2d980328fd9505bad6b5a948 296 tt hN) '#' λg0 H11 g00 g01 B11=>W2.mul (.of_left '#') ?_;obtain⟨⟨m0,x0,y0⟩,c⟩:=at6 g00 g01;show G2.list .d (lin 856957797608840 9191 tt g00) (lin 0x68f65687c23f448e948 9191 rfl g01) x0 ?_;show Bg (F:=F.bd) B11 (lin 0x1ec01147e9585b300651fb59505bad6b5a948 296 tt hN) '#' λg1 H12 g10 g11 B12=>W2.mul (.of_left '#') ?_;obtain⟨c,m1,x1,y1⟩:=at6 g10 g11;show G2.list .d (by change(0:Int)<=1+2*g1;show lin 0xc2d992123a5bd88 9191 tt g10) (by change(1+2*g1:Int)<_;show lin 0x1a3d95a1f08fd9091d2dc8 9191 tt g11) x1 {(by decide:2<=2^20),.data ?_};show G2.list (w:=.int p0) .d '#' '#' rfl (G2.list (w:=.int p1) .d '#' '#' rfl ?_);show Bg (F:=F.bd) B12 (lin 0x3d80228fd2b0b6600ca3f6b59505bad6b5a948 296 tt hN) '#' λg2 H13 g20 g21 B13=>?_;have wo:=lyW_ok (e:=λk=>if k=0 then e0 else e1) (h:=λk=>if k=0 then (m0:Int) else m1) (r:=(p0:Int)+p1+3+g2) ly {h0 '#',h1 '#'} ⟨y0,y1⟩ (lin 0x616cd1ecaf648bb950540c8b21ee541502c91643dca82a0643dca82a04a 9699623 tt g20 g21);show{B13.tl.get 0 rfl,(show(["starts","places","blocks","own","each","held","room"]:List bY).Nodup by decide),dd,_,.aa _,rfl,if_pos rfl,.aa,?_};show hK _ _ (N+20) wo (bM _) ((B13.set _).del.le (lin 0x325f2d6b59505bad6b5a948 7 tt))
end
section
set_option backward.match.sparseCases false
variable{F:Fx}{D:Dx}{m mc:Loc}{t:List Cl}{H:AH}{P P':PH}{s:aW}{K:V->AH->Prop}{g:Gl}{h':j3}{tk:Nat}{a T c:aK}{q:bY}{ps:Array aL}{fs:List (aK×PO)}
def Ox(es:Array lL):Bool:=es.toList.all λe=>match e.key with
 |.str _ _=>true
 |_=>false
theorem Qc(h:Ox es=true):StrKeys es:=λe he=>by
 have:=cT.mp h e (Array.mem_toList_iff.mpr he);rcases ek:e.key<;>simp only[ek]at this<;>first|show⟨_,_,rfl⟩|show ff this
def dEs(o:jh):Array lL:=match o.data with
 |.dict es _=>es
 |_=>#[]
def dN(o:jh):Nat:=match o.data with
 |.dict _ n=>n
 |_=>0
theorem mgIn(P:g7):∃es n,(Am P).lookup cV=some {cls:=.type "dict",data:=.dict es n}/\Ox es=true/\mf es "__builtins__"=some ↑4/\(Am P).lookup 4=some {cls:=.type "module",dict:=some i4,data:=.plain}:={dEs (kO3 P),dN (kO3 P),rfl,rfl,⋯,⋯}
theorem Rel.tab(r:Rel g H P s)(e:P T=some .tab)(hx:kO T s.heap h')(hc:s.heap.objs.size<=c)(hr:h'.CodeRec ↑c q)(hT:h'.get? T=some (nM ps'))(ht:nD ps'.toList)(hm:∀pos d,j7 pos ps'.toList=some d->∃b q',d=.ref b/\(P.set c (.code q)) b=some (.code q')):
  Rel g H (P.set c (.code q)) {s with heap:=h',toks:=tk}:=by
 have b0:=(r.prv T _ e).1 λf h=>by contradiction
 obtain⟨n1,n2,n3⟩:=r.fresh (Ak hc);have at_:∀{b o},b≠T->s.heap.get? b=some o->h'.get? b=s.heap.get? b:=λnb y=>(hx _ _ nb y).trans y.symm;show{λb o x=>hx b o (λy=>by simp only[y,b0]at x;show absurd x.symm (aF _)) (r.base b o x),λb o x=>?_,λb p x=>?_,r.gens,r.os}
 .apply Y;obtain⟨z1,z2,z3⟩:=r.own b o x;have nT:b≠T:=λy=>by rw[y,e]at z2;show absurd z2 (aF _)
  obtain⟨ob,y⟩:=z3.there;show{z1,(if_neg λy=>by simp only[y,n1]at x;show absurd x.symm (aF _)).trans z2,z3.at (.new n2) (at_ nT y)}
 .apply Y;rcases bB (b=c) with y|y
  .clear ps' r e hx hc hT ht hm b0 n1 n2 at_;subst y;cases (if_pos rfl).symm.trans x;show{λf=>n3,hr}
  .have x:=(if_neg y).symm.trans x;obtain⟨z1,z2⟩:=r.prv b p x;rcases bB (b=T) with y|y
   .subst y;clear H r hc hr n1 n2 n3 y z2 hx b0 at_;cases x.symm.trans e;show⟨z1,ps',hT,ht,hm⟩
   .obtain⟨ob,z3⟩:=z2.there;show{z1,z2.at (.new n2) (at_ y z3)}
theorem Qd{a b:Int}(l:List aL)(h:nD l)(e:j7 pos (l++[cZ a,cZ b,x])=some d):j7 pos l=some d\/d=x:=by
 fun_induction nD l with
 |case1=>
  dsimp only [oO,cZ,j7]at e
  split at e
  .show .inr (bL e).symm
  .show absurd e.symm (aF _)
 |case2 a' t b' u y rest ih=>
  dsimp only [ku,j7]at e ⊢
  split at e
  .next hc=>rw[if_pos hc];show .inl e
  .next hc=>rw[if_neg hc];show ih h e
 |case3 l h1 h2=>show h.elim
class inductive LamL(cl:List (bY×aK))(fs:List (aK×PO)):List (bY×aY)->Loc->Prop
 |nil:LamL cl fs [] []
 |cons{x c z ns mc}(e:cl.lookup x=some c)(h:(c,.cell (some ↑z))∈fs)(t:LamL cl fs ns mc):LamL cl fs ((x,.free)::ns) ((x,.free,some ↑z)::mc)
theorem LamL.mem(h:LamL cl fs ns mc):mc.map (λp=>(p.1,p.2.1))=ns/\∀x k ov,(x,k,ov)∈mc->∃c z,k=.free/\ov=some ↑z/\cl.lookup x=some c/\(c,.cell (some ↑z))∈fs:=by
 induction h with
 |nil=>show{rfl,λa a a h=>absurd h aD}
 |cons e h _ ih=>
  show{congrArg (cW _) ih.1,λx k ov hm=>?_};apply Y;rcases aS.mp hm with e8|hm
  .injection e8 with e8 e7;injection e7 with e7 e6;subst e8;subst e7;subst e6;show⟨_,_,rfl,rfl,e,h⟩
  .show ih.2 x k ov hm
theorem V5(ho:(a,.obj (lX name qual params body scope cl pm c ctv))∈F.cl)(hc:(c,.code q)∈F.cl)(L:LamL cl F.cl scope.names mc)
  (sk:scope.kind=.function/\scope.isCoroutine=false/\scope.isGenerator=false/\Fv (scope.names.map (·.1))=true/\(∀p∈scope.names,nmOk p.1=true)) (hap:∀x y c,cl.lookup x=some c->cl.lookup y=some c->x=y) (hb:l0 (kla_fn name qual params body scope cl pm ↑c ctv) {[],[]}=pure []) (h:WE F.bd mc H body K):WCc F.u ↑a [] H K:=by
 intro A outer P s xs ao fr fsx hcl r rs;rcases rs;have s1:=sk.1;have s2:=sk.2.1;have s3:=sk.2.2.1;have s4:=sk.2.2.2.1;have s5:=sk.2.2.2.2;obtain⟨l1,l2⟩:=L.mem;obtain⟨a0,ha⟩:=r.prv _ _ (hcl _ ho);obtain⟨c2,oc,vs,tq,e,hoc,hd,hq⟩:=(r.prv _ _ (hcl _ hc)).2;injection e with e;subst e;show Ai rfl ?_;apply @A2 _ _ _ _ Y _ _;change A2 _ A.in1 (pS ↑a _) _ _ s;apply @A2 _ _ _ _ _ Y _;show A0 (lf (fZ ha ?_));unfold callFunction
 dsimp only
 show A0 (m:=field ↑c 1) (lf (nF hoc hd hq ?_));show A0 (A1 ?_);rw[hb];show A0 (A1 ?_);show A0 (A0 (Dv ?_));have lay:∀(l:List (bY×aY)),(∀p∈l,p.2=eF)->forIn l cl (λ(p:bY×aY)(cs:List (bY×aK))=>(if (p.2==j8)=true then do let b <- alloc {cls:=.type "cell",data:=.cell none};pure (dK ((p.1,b)::cs)) else pure (dK cs):kh (ForInStep (List (bY×aK)))))=pure cl:=λl=>by
  induction l with
  |nil=>show λd=>rfl
  |cons p l ih=>intro h;rw[jd,h p (.head _)];show ih λp hp=>h p (.tail _ hp)
 show A0 (Cc (lay scope.names λp hp=>?_) ?_)
 .rw[<- l1]at hp;obtain⟨⟨x,k,ov⟩,hq,e9⟩:=aE.mp hp;simp only[<- e9];obtain⟨d,d,e,d⟩:=l2 x k ov hq;show e
 have e0:=Ak (bC s.heap.objs.size);obtain⟨n1,n2,n3⟩:=r.fresh e0;generalize hL:s.heap.objs.size=L at e0 n1 n2 n3 ⊢;have ns:(s.heap.push {cls:=.type "frame",data:=.dict #[]}).Ns L λd=>none:=hL▸pq _ _;have q1:Rel F.g H (P.set L (.frame λd=>none)) {s with heap:=s.heap.push {cls:=.type "frame",data:=.dict #[]}}:=r.ck (t:=s.toks) (λb o e=>bA _ e) e0 ns;have sb:=PH.new (p:=.frame λd=>none) n2;show A0 (A1 (A1 (A0 (lf (lR (F.g.lim.keeps q1.base) (show A.depth<1000 from dW (aC (gY _ _) ao.depth) (nle tt)) ?_)))))
 (rw[s2];rw[s3])
 show A1 {rfl,?_};generalize hE:({scope:=scope,locals:=L,globals:=cV,cells:=cl,qual:=q++".<locals>.",func:=some a,code:=.ref c,frame:=some L,builtins:=i4}:oT)=env;have e1:env.scope=scope:=hE▸rfl;have e2:env.locals=L:=hE▸rfl;have e3:env.cells=cl:=hE▸rfl;have e4:env.frame=some L:=hE▸rfl;have nd:=Ef s4;have ok0:Ok F.bd {A.deeper env,env,outer,P,scope.names} mc [] H (P.set L (.frame λd=>none)) {s with heap:=s.heap.push {cls:=.type "frame",data:=.dict #[]}}:=by
  show{{{?_,?_,ao.quiet},.fn (by change A.frames.map (env::·)=_;rw[fr];rfl) fsx (hE▸rfl) (e1▸s1),hcl,e1▸s1,hE▸rfl,hE▸rfl,nd,λp hp=>by unfold jP;show e1.symm▸Dw nd hp,s5,e2▸n2,λx y c hx hy=>?_,λd x c hx hk=>?_,λd h=>absurd h.symm (aF _)},q1,sb,l1,{_,by rw[e2];show if_pos rfl,λx v hm=>?_,λd d h=>absurd h aD},λx k ov hm d=>?_,λd h=>(absurd h aD),.nil}
  .have:=ao.depth;change A.depth+1+F.n<=900;simp only[iP,qk 1];show this
  .have this:=ao.units;change A.units+3+20*F.n<=8000;show lin 0x480003e806eca88ed441480003e806eca88e8a43d842 263 tt this
  .rw[e3]at hx hy;show hap x y c hx hy
  .unfold jP at hk;rw[e1]at hk;apply Y;have hk:=mem_of_lookup hk;rw[<- l1]at hk;obtain⟨⟨x,k,ov⟩,hp,e⟩:=aE.mp hk;clear params body pm ctv ho hc sk hap hb h s ao fr fsx hcl r s1 s2 s3 s4 s5 l1 a0 ha oc vs tq hd hq hoc lay L hL e0 n1 n2 n3 ns q1 sb hE e1 e2 e3 e4 nd hx hk;injection e with e e8;subst e;subst e8;obtain⟨d,d,e,d⟩:=l2 _ _ _ hp;show absurd e (dte tt)
  .apply Y;obtain⟨d,d,e,d⟩:=l2 _ _ _ hm;show absurd e (dte tt)
  .apply Y;obtain⟨c,z,rfl,rfl,h1,h2⟩:=l2 _ _ _ hm;show{c,_,e3▸h1,sb _ _ (hcl _ h2),λv e=>by injection e with e;subst e;show⟨_,rfl,rfl⟩}
 show Lf (A4 (h _ _ _ _ ok0) (λx s2 p=>?_) λe s2 p=>?_)
 .obtain⟨v,H',P',k,ok'⟩:=p;show .ok x v H' P' k ok'.top ok'.q ok'.sub
 .obtain⟨X,H',P',b,p,k,rfl,tb,hp,q,bare⟩:=p;have fs':Frs P' (env::outer):=λe he=>by
   apply Y;rcases aS.mp he with e8|he
   .subst e8;obtain⟨n,e,d⟩:=bare.loc;show{by simp only[e1,s1];decide,_,n,hE▸rfl,e}
   .obtain⟨k,L,m,e1,e2⟩:=fsx e he;show{k,L,m,e1,bare.sub _ _ e2}
  show tb.fg (by change A.frames.map (env::·)=_;rw[fr];rfl) fs' e4 (e4▸hp) q (.refl bare.sub) λP'' h'' tb' q' ks=>.err X H' P'' b k tb' q' ks.sub
end
section
variable{F:Fx}{D:Dx}{m mc:Loc}{t:List Cl}{H:AH}{P P':PH}{s:aW}{K:V->AH->Prop}{T cd:aK}{args:Arguments}{body:cR}{scope:nE}{lp:ki}
class inductive LamN(m:Loc):List (bY×aY)->Loc->Prop
 |nil:LamN m [] []
 |cons{x k z ns mc}(h:(x,k,some ↑z)∈m)(hk:k=.cell\/k=.free)(t:LamN m ns mc):LamN m ((x,.free)::ns) ((x,.free,some ↑z)::mc)
theorem LamN.cells(ok:Ok F D m t H P s)(c1:∀p∈cl,D.env.cells.lookup p.1=some p.2)(h:LamN m ns mc):(∀x,(x,eF)∈ns->∃c,(x,c)∈cl)->∃fs,(∀p∈fs,P p.1=some p.2)/\LamL cl fs ns mc:=by
 have mono:∀{fs fs':List (aK×PO)}{ns mc},LamL cl fs ns mc->(∀p∈fs,p∈fs')->LamL cl fs' ns mc:=λh n=>by
  induction h with
  |nil=>show .nil
  |cons e h _ ih=>show .cons e (n _ h) ih
 induction h with
 |nil=>show λa=>{[],λa h=>(absurd h aD),.nil}
 |cons h hk _ ih=>
  intro c2;apply Y;obtain⟨fs,f1,f2⟩:=ih λx hx=>c2 x (.tail _ hx);obtain⟨c,cv,d1,d2,d3⟩:=ok.cel _ _ _ h hk;obtain⟨y,rfl,hy⟩:=d3 _ rfl;clear d3;obtain rfl:y=_:=hy;obtain⟨c',hc'⟩:=c2 _ (.head _);obtain⟨d,hd⟩:=Ja hc';have:=c1 (_,d) (mem_of_lookup hd);simp only[d1]at this;injection this with this;subst this;show⟨_::fs,λp hp=>by
   rcases aS.mp hp with e8|hp
   .subst e8;show d2
   .show f1 p hp,.cons hd (.head _) (mono f2 λa h=>.tail _ h)⟩
theorem LamN.has(ok:Ok F D m t H P s)(h:LamN m ns mc):∀x,(x,eF)∈ns->∃c,D.env.cells.lookup x=some c:=by
 induction h with
 |nil=>show λa h=>(absurd h aD)
 |cons h hk _ ih=>
  intro x hx;apply Y;rcases aS.mp hx with e8|hx
  .cases e8;obtain⟨c,a,e,a⟩:=ok.cel _ _ _ h hk;show⟨c,e⟩
  .show ih x hx
theorem V6(ok:Ok F D m t H P s)(hcode:F.code=some cd)(hT:(T,.tab)∈F.cl)(hC:∀P,oG (Am P) cd T=true)(ne:cV≠T/\4≠T)(hdef:∀env,defaultsOf args env=([],[]))(L:LamN m scope.names mc)
  (h:∀a c q cl fs ctv pm qual P' s',Ok F D m t H P' s'->P' a=some (.obj (lX "<lambda>" qual args body scope cl pm c ctv))->P' c=some (.code q)->(∀p∈fs,P' p.1=some p.2)->LamL cl fs scope.names mc->(∀x y c,cl.lookup x=some c->cl.lookup y=some c->x=y)->Q ↑a s') :
  A2 F.g.M D.A (ch (.Lambda args body scope lp) D.env) Q (PX F D) s:=by
 apply Y;obtain⟨cl,h1,c1,f,c2⟩:=J9 (env:=D.env) (cs:=[]) (λf h=>absurd h aD) (L.has ok);have hclos:kH scope D.env=pure cl:=by
  unfold kH;rw[bind_pure];show h1
 obtain⟨fs,f1,f2⟩:=L.cells ok c1 c2;have back:=λx c e=>c1 (x,c) (mem_of_lookup e);have eT:=ok.sub _ _ (ok.d.cl _ hT);obtain⟨f,ps,gT,ht,hm⟩:=ok.q.prv _ _ eT;have X:=ok.bp;obtain⟨es,n,g1,g2,g3,g4⟩:=mgIn F.g.w.params;have hg:s.heap.Ns cV (mf es):={_,es,n,X _ _ g1,rfl,Qc g2,λf=>rfl};have hb:s.heap.BuiltinsAt (mf es) T:={4,_,g3,dte tt,dte tt,ne.2,X _ _ g4,rfl,rfl,rfl};have hc:=ok.d.code _ hcode;have C:=codeHd_of_K X (hC _);have fin:∀{P1:PH}{h':j3}{tk:Nat}{c:aK}{q:bY}{ctv pm:aL},Rel F.g H P1 {s with heap:=h',toks:=tk}->(∀a p,P a=some p->P1 a=some p)->P1 c=some (.code q)->Q (.ref h'.objs.size) {s with heap:=h'.push (lX "<lambda>" (D.env.qual++"<lambda>") args body scope cl pm c ctv),toks:=tk}:=λ{P1 h' tk c q ctv pm}r sb hc=>by
  obtain⟨n1,n2,n3⟩:=r.fresh (Ak (bC _));have nw:=PH.new (p:=.obj (lX "<lambda>" (D.env.qual++"<lambda>") args body scope cl pm c ctv)) n2;show h _ c q cl fs ctv pm _ _ _ (ok.on (r.ck (p:=.obj (lX "<lambda>" (D.env.qual++"<lambda>") args body scope cl pm c ctv)) (t:=tk) (λb o e=>bA _ e) (Ak (bC _)) (bI _ rfl)) λa p e=>nw _ _ (sb a p e)) (if_pos rfl) (nw _ _ hc) (λp hp=>nw _ _ (sb _ _ (f1 p hp))) f2 (λx y c e1 e2=>ok.d.apart x y c (back x c e1) (back y c e2))
 show lf <| kla_eval (hdef _) ?_;apply Y;induction e:j7 lp ps.toList using Option.casesOn with
 |some d=>
  obtain⟨b,q,rfl,hq⟩:=hm _ _ e;show kla_makeFunctionHit hclos ok.d.glob hg hc C gT ht e hb λctv h' tk hk f=>fin (ok.q.grow hk) (λf f e=>e) hq
 |none=>
  show kla_makeFunction hclos ok.d.glob hg hc C gT ht e ne.1 hb λc ctv h' tk hx hge hlt hr htb=>?_;have n2:=(ok.q.fresh (Ak hge)).2.1;show fin (ok.q.tab eT hx hge hr htb (by simp only[jo];show TriplesOk_snoc _ _ _ _ ht) λpos d e=>?_) (PH.new n2) (if_pos rfl);rw[jo]at e;apply Y;rcases Qd _ ht e with e|e
  .obtain⟨b,q,e1,e2⟩:=hm _ _ e;show{b,q,e1,PH.new n2 _ _ e2}
  .show{c,_,e,if_pos rfl}
def metX(KX:KXT)(K:V->AH->Prop):KXT:=λX H=>(X=76/\K (.str Kq) H)\/(X=52/\K (.str sArg) H)\/(X=95/\KX 95 H)
theorem Ku:Ff "NoRoom" ↑76:=(Al.fn _ (Dj (x:="NoRoom") rfl)).1
theorem Gc:Ff "BadArgument" ↑52:=(Al.fn _ (Dj (x:="BadArgument") rfl)).1
theorem Ij:HdF 76:={λP=>rfl,λP=>rfl,λP=>⟨_,_,rfl,rfl⟩}
theorem F8:HdF 52:={λP=>rfl,λP=>rfl,λP=>⟨_,_,rfl,rfl⟩}
theorem Sv:SubF 76 76 true/\SubF 52 76 false/\SubF 52 52 true/\SubF 95 76 false/\SubF 95 52 false:={λP=>rfl,λP=>rfl,λP=>rfl,λP=>rfl,λP=>rfl}
theorem WE.callL(hm:(x,.local,some ↑a)∈m)(ho:(a,.obj o)∈F.cl)(hd:o.data=.func fd)(h:WC F ↑a [] H K):WE F m H (.Call (.Name x np) [] [] pos) K:=λD t P s ok=>
 Ar (WE.seq (WE.name (K:=λv H'=>v=.ref a/\H'=H) hm (.inl rfl) ⟨rfl,rfl⟩) ok λf s1 v H1 P1 k ok1=>by
  clear ok;apply @A2 _ _ _ _ Y _ _;obtain⟨rfl,rfl⟩:=k;rw[ok1.top];show Cd (P:=λh=>h.get? a=some o) rfl (λh e=>{.frame,.inl rfl,(gh e).andThen ((hd▸.now))}) ?_;intro Γ p hΓ hN;show mY (Q:=λx s₁=>s₁.heap.get? a=some o/\A2 F.g.M D.A (l5 ↑a ([]++x.pos) x.kw) (PV F D m t K) (PX F D) s₁) {((ok1.q.prv _ _ (ok1.sub _ _ (ok1.d.cl _ ho))).2),h D m t P1 s1 [] ok1.pop .nil} Γ p hΓ)
theorem met_c(ho:(a,.obj (lX name qual params body scope cl pm c ctv))∈F.cl)(hc:(c,.code q)∈F.cl)(L:LamL cl F.cl scope.names mc)
  (sk:scope.kind=.function/\scope.isCoroutine=false/\scope.isGenerator=false/\Fv (scope.names.map (·.1))=true/\(∀p∈scope.names,nmOk p.1=true)) (hap:∀x y c,cl.lookup x=some c->cl.lookup y=some c->x=y) (hb:l0 (kla_fn name qual params body scope cl pm ↑c ctv) {[],[]}=pure [])
  (h:WE {F.bd with KX:=metX F.KX K} mc H body λb H'=>K (.str Bu) H'):WCc F.u.u ↑566 [↑a] H K:=by
 show Nk 50 rfl rfl ?_;show WS1.try (metX F.KX K) [] rfl rfl (λb b h=>absurd h aD) ?_ λX H' k=>?_
 .apply @WS _ _ _ _ _ Y;show(Jc (F:={F.u.bd with KX:=metX F.KX K,keep:=[]}) Al rfl rfl 60 _ _ H (λsl' H'=>evS F.u.bd (A9 (tst 25)).names K (.ret (.con (.str Bu))) (λb H'=>K .none H') sl' H') ?_);show WE.callL (Ah (i:=0) rfl) ho rfl (WCc.wc (V5 (F:={F.bd with KX:=metX F.KX K}) ho hc L sk hap hb h))
 .have s1:=Sv.1;have s2:=Sv.2.1;have s3:=Sv.2.2.1;have s4:=Sv.2.2.2.1;have s5:=Sv.2.2.2.2;rcases k with⟨rfl,k⟩|⟨rfl,k⟩|⟨rfl,k⟩
  .show .hit Ku (Ah (i:=1) ⋯) Ij s1 (.inl ⟨_,_,_,rfl,k⟩)
  .show .no Ku (Ah (i:=1) ⋯) Ij s2 (.hit Gc (Ah (i:=2) ⋯) F8 s3 (.inl ⟨_,_,_,rfl,k⟩))
  .show .no Ku (Ah (i:=1) ⋯) Ij s4 (.no Gc (Ah (i:=2) ⋯) F8 s5 (.on k))
theorem g_met:Ff "_law_met" ↑566:=(Al.fn _ (Dj (x:="_law_met") rfl)).1
theorem WE.met(hcode:F.code=some cd)(hT:(T,.tab)∈F.cl)(hC:∀P,oG (Am P) cd T=true)(ne:cV≠T/\4≠T)(hdef:∀env,defaultsOf args env=([],[]))(L:LamN m scope.names mc)
  (sk:scope.kind=.function/\scope.isCoroutine=false/\scope.isGenerator=false/\Fv (scope.names.map (·.1))=true/\(∀p∈scope.names,nmOk p.1=true)) (hb:∀name qual cl pm c ctv,l0 (kla_fn name qual args body scope cl pm c ctv) {[],[]}=pure []) (hm:(ce "_law_met",.globalImplicit,ov)∈m)
  (h:∀l,WE {F.bd with cl:=l++F.cl,KX:=metX F.KX K} mc H body λb H'=>K (.str Bu) H'):WE F.u.u m H (.Call (.Name "_law_met" np) [.Lambda args body scope lp] [] cp) K:=λD t P s ok=>by
 apply @A2 _ _ _ _ Y _ _;show Ar (g_met.load hm ok (Cd (P:=i8 (Am F.g.w.params)) rfl (Mz (λP=>rfl)) (Bz (A0 (V6 (F:=F.u.u) ok hcode hT hC ne hdef L λa c q cl fs ctv pm qual P' s' ok' ha hc hf L' ap=>A0 (A1 (A0 (A3 (A1 (A1 {ok'.bp,?_}))))))))));have mono:∀{fs':List (aK×PO)}{ns mc},LamL cl fs ns mc->(∀p∈fs,p∈fs')->LamL cl fs' ns mc:=λh n=>by
  induction h with
  |nil=>show .nil
  |cons e h _ ih=>show .cons e (n _ h) ih
 show WCc.at (F:=F.u.u) (l:=(a,.obj _)::(c,.code q)::fs) (met_c (F:={F with cl:=(a,.obj _)::(c,.code q)::fs++F.cl}) (.head _) (.tail _ (.head _)) (mono L' λp hp=>.tail _ (.tail _ (aU _ hp))) sk ap (hb _ _ _ _ _ _) (h _)) ok' (λp hp=>by
  rcases aS.mp hp with e8|hp
  .subst e8;show ha
  .apply Y;cases hp with
   |head=>show hc
   |tail _ hp=>show hf p hp) (.cons rfl .nil)
end
section
variable{F:Fx}{H:AH}{K:V->AH->Prop}{l:List (aK×AObj)}{x:CA}{s:DS}{y:DA}{g:CG}{j:JS}{z:JA}{n:Int}{o:Oct}
theorem entL0(i:Nat){fa cd:aK}{st:gQ}(e:Ub i=(fa,as,st,ir))(hc:∀P,∃o,(Am P).lookup fa=some o/\(fdOf o).code=.ref cd)(hl:as.length=vs.length)
  (h:evS {F.bd with code:=some cd} (A9 st).names K ir (λ_ H'=>K .none H') (vs.map some) H):WC F.u ↑fa vs H K:=
 WCc.wc (O2 (Ud F.g.w.params (Uc i e)).1 (some cd) (λc e P fd h=>by
  injection e with e;subst e;obtain⟨o,h1,h2⟩:=hc P;obtain rfl:=bL (bP (eG h) h1);show h2) hl (Oc _ _▸(Jc Al rfl rfl 60 (A7 st) _ H _ ((Ud F.g.w.params (Uc i e)).2▸h)).mono λ_ _ z9=>z9.elim λ_ y0=>y0.elim λ_ k=>k))
theorem cd_put:∀P,∃o,(Am P).lookup 638=some o/\(fdOf o).code=.ref 637:=λP=>{kO638 P,rfl,rfl}
theorem Xk:∀P,∃o,(Am P).lookup 645=some o/\(fdOf o).code=.ref 644:=λP=>{kO645 P,rfl,rfl}
theorem tb_put:∀P,oG (Am P) 637 633=true:=λP=>rfl
theorem Xl:∀P,oG (Am P) 644 640=true:=λP=>rfl
theorem put_ok(hT:(633,.tab)∈F.cl)(C:CH H x s y (j.objs z x.a++l) g)(so:s.Ok)(hd:s.dead=false)(R:Room g)(J:Jok j s.blocks)(hp:∀m∈j.nums,g.p m≠0)(hn:0<=n/\n<s.blocks)(ho:o.length=16)(hw:¬ (j.start<=n/\n<j.start+(j.pl+1)))
  (h0:j.calls=0->∀H',CH H' x s y (j.objs z x.a++l) g->K (.str sArg) H') (h1:j.calls≠0->n∈j.nums->∀H',CH H' x s y (j.objs z x.a++l) (g.put n o)->K (.str Bu) H')
  (h2:j.calls≠0->n∉j.nums->j.pl<=j.nums.length->∀H',CH H' x s y (j.objs z x.a++l) g->K (.str Kq) H') (h3:j.calls≠0->n∉j.nums->¬ j.pl<=j.nums.length->∀H' B,(∀m,g.used m->B m=g.B m)->CH H' x s y (({j with nums:=j.nums++[n]}:JS).objs z x.a++l) { (g.put n o).pin n (g.p n+1) with B:=B}->K (.str Bu) H') :
  WC F.u.u.u.u.u.u.u ↑638 [↑x.a,↑z.a,.int n,.bytes o] H K:=by
 apply @WC _ _ Y _ _;have hl:j.nums.length<=100:=by have:=J.len;have:=J.pl;show lin 0xc2d02f60f65616e9c049 10535 tt ‹_› this
 show entL0 62 rfl cd_put rfl ?_;show C.af (Ao 5 rfl) (λb=>rfl) (Mi (F:={F.bd with code:=some 637}) C so hd hn R λg1 H1 G C1=>?_);have hh:=G.ne C;have u1:g1.used n:=λe=>absurd e hh;show C1.cw u1 (Ao 1 rfl) (λb b=>rfl) (E2 (F:={F.u.u.u.u.u.bd with code:=some 637}) C1 u1 ?_);show C1.cw u1 (Ao 2 rfl) (λb b=>rfl) (Ig (F:={F.u.u.u.u.u.bd with code:=some 637}) C1 u1 ho λH2 C2=>?_);apply @evS _ _ _ _ _ Y _;have V1:=λm=>by change upd g1.V n o m=upd g.V n o m;unfold upd;rw[G.V]
 have fin:∀{H3:AH}{st:bY}{g3 g4:CG}{j':JS},CH H3 x s y (j'.objs z x.a++l) g3->g3.h=g1.h->g3.most=g4.most->g3.B=g1.B->(∀m,g3.V m=g4.V m/\g3.p m=g4.p m)->g4.h=g.h->(∀m,g4.used m->g4.B m=g1.B m)->(g4.h n=0->g4.p n=0->g4.V n=s.at_ n)->(∀H',CH H' x s y (j'.objs z x.a++l) g4->K (.str st) H')->∀{v3 v4:Option V},evS {F.u.u.u.u.u.u.bd with code:=some 637} (A9 (tst 37)).names K (.expr (.af 'A' "release" ['G']) (.ret 'F')) (λb H'=>K .none H') [some ↑x.a,some ↑z.a,some (.int n),v3,v4,some (.str st),some (.ref (g1.B n))] H3:=λ{H3 st g3 g4 j'}C3 a1 a2 a3 a4 b1 hB hc hK v3 v4=>by
  rw[<- a3];have h3:g3.h n≠0:=by rw[a1];show hh
  show C3.af (Ao 7 rfl) (λb=>rfl) (Em (F:={F.u.u.u.u.bd with code:=some 637}) C3 h3 (λe1 e2=>?_) λH4 C4=>hK _ (C4.congr a2.symm (λm=>{(a4 m).1.symm,?_,(a4 m).2.symm}) λm u=>(hB m u).trans (congrFun a3 m).symm))
  .rw[(a4 n).1];rw[a1,G.hn]at e1;rw[(a4 n).2]at e2;show hc (by rw[b1];show lin 0xebd4aeb148 9699623 tt e1) e2
  .rw[b1];change g.h m=upd g3.h n (g3.h n-1) m;rw[a1];show G.back m
 have back:∀{H3:AH}{st:bY},(st !=Bu)=true->CH H3 x s y (j.objs z x.a++l) (g1.put n o)->(∀H',CH H' x s y (j.objs z x.a++l) g->K (.str st) H')->∀{v3},evS {F.u.u.u.u.u.u.bd with code:=some 637} (A9 (tst 37)).names K (.ite (.cmp .NotEq 'F' (.con (.str Bu))) (.expr (.af 'G' "fill" ['E']) .done) .done (.expr (.af 'A' "release" ['G']) (.ret 'F'))) (λb H'=>K .none H') [some ↑x.a,some ↑z.a,some (.int n),v3,some (.bytes (g1.V n)),some (.str st),some (.ref (g1.B n))] H3:=λ{H3 st}ne C3 hK v3=>by
  apply @evS _ _ _ _ _ Y _;show W2.neS (bifB (λb=>?_) λe=>?_)
  .show C3.cw (g:=g1.put n o) u1 (Ao 2 rfl) (λb b=>rfl) (Ig (F:={F.u.u.u.u.u.bd with code:=some 637}) (g:=g1.put n o) C3 u1 C1.len λH4 C4=>?_);show fin (g4:=g) C4 rfl G.most rfl (λm=>{?_,G.p m}) rfl (λm u=>(G.B m u).symm) (λe1 e2=>C.cl e1 e2) hK;change upd (upd g1.V n o) n (g1.V n) m=g.V m;rcases bB (m=n) with e|e
   .simp only[e,Ag];show G.V n
   .rw[Af e,Af e];show G.V m
  .rw[ne]at e;show aR e
 have fwd:∀{H3:AH}{g3 g4:CG}{j':JS},CH H3 x s y (j'.objs z x.a++l) g3->g3.h=g1.h->g3.most=g4.most->g3.B=g1.B->(∀m,g3.V m=g4.V m/\g3.p m=g4.p m)->g4.h=g.h->(∀m,g4.used m->g4.B m=g1.B m)->(g4.p n≠0)->(∀H',CH H' x s y (j'.objs z x.a++l) g4->K (.str Bu) H')->∀{v3 v4:Option V},evS {F.u.u.u.u.u.u.bd with code:=some 637} (A9 (tst 37)).names K (.ite (.cmp .NotEq 'F' (.con (.str Bu))) (.expr (.af 'G' "fill" ['E']) .done) .done (.expr (.af 'A' "release" ['G']) (.ret 'F'))) (λb H'=>K .none H') [some ↑x.a,some ↑z.a,some (.int n),v3,v4,some (.str Bu),some (.ref (g1.B n))] H3:=λC3 a1 a2 a3 a4 b1 hB hp hK v3 v4=>by
  show W2.neS ?_;show fin C3 a1 a2 a3 a4 b1 hB (λb e=>absurd e hp) hK
 show WE.met (F:={F.u.u.u.u.bd with code:=some 637}) (mc:=lc [("buffer",.free),("journal",.free)] [some (.ref (g1.B n)),some ↑z.a]) rfl hT tb_put '#' (λb=>rfl) (.cons (Ah (i:=6) ⋯) (.inl rfl) (.cons (Ah (i:=1) ⋯) (.inl rfl) .nil)) {rfl,rfl,rfl,rfl,by decide +kernel} (λb b b b b b=>rfl) (Ah (i:=7) rfl) λl=>?_;show exE (ex:=.af 'B' "write" ['A']) Al rfl ?_;show Av.at C2.tail 0 1 rfl rfl A6 (Ao 29 rfl) rfl (S9 (F:={F.u.bd with cl:=l++F.cl,KX:=_}) (g:=g1.put n o) C2 hl hh hw (λe H' C'=>.inr (.inl {rfl,back rfl C' (h0 e)})) (λe hm=>?_) (λe hm e2 H' C'=>.inl {rfl,back rfl C' (h2 e hm e2)}) λe hm e2 H' C'=>?_)
 .show fwd (g3:=g1.put n o) (g4:=g.put n o) C2 rfl G.most rfl (λm=>{V1 m,G.p m}) rfl (λm u=>(G.B m u).symm) (hp n hm) (h1 e hm)
 .show fwd (g4:={ (g.put n o).pin n (g.p n+1) with B:=g1.B}) C' rfl G.most rfl (λm=>{V1 m,?_}) rfl (λb b=>rfl) ?_ (λH' C'=>h3 e hm e2 H' g1.B (λm u=>G.B m u) C')
  .change upd g1.p n (g1.p n+1) m=upd g.p n (g.p n+1) m;unfold upd;rw[G.p,G.p]
  .change upd g.p n (g.p n+1) n≠0;rw[Ag];have:=(C.pos (n:=n)).2;show lin 26780225677640 263 tt this
variable{way:Int}{b:Nat}
inductive Out(g:CG)(j:JS)(n:Int)(o:Oct)(way:Int):JS->CG->bY->List Row->Prop
 |b0(w:way=0)(h:¬ (j.nums.length:Int)+(j.calls+1)*j.each<=j.pl):Out g j n o way j g Kq []
 |b1(w:way=0)(h:(j.nums.length:Int)+(j.calls+1)*j.each<=j.pl):Out g j n o way {j with calls:=j.calls+1} g Bu []
 |w0(w:way=1)(h:j.calls=0):Out g j n o way j g sArg []
 |w1(w:way=1)(h:j.calls≠0)(h1:n∈j.nums):Out g j n o way j (g.put n o) Bu []
 |w2(w:way=1)(h:j.calls≠0)(h1:n∉j.nums)(h2:j.pl<=j.nums.length):Out g j n o way j g Kq []
 |w3(w:way=1)(h:j.calls≠0)(h1:n∉j.nums)(h2:¬ j.pl<=j.nums.length):Out g j n o way {j with nums:=j.nums++[n]} ((g.put n o).pin n (g.p n+1)) Bu []
 |e0(w:way=2)(h:j.calls=0):Out g j n o way j g sArg []
 |e1(w:way=2)(h:j.calls≠0)(h1:¬ (j.calls=1/\j.nums≠[])):Out g j n o way {j with calls:=j.calls-1} g Bu []
 |e2(w:way=2)(h:j.calls=1)(h1:j.nums≠[]):Out g j n o way {j with nums:=[],calls:=j.calls-1,ay:=j.ay+1} ((g.b5 (grp g.V j.start j.nums)).minus j.nums) Bu (grp g.V j.start j.nums)
 |st(i:Nat)(r:List Row)(w:way=3+i)(h:(strd g.V j.start j.nums)[i]?=some r):Out g j n o way j (g.b5 r) Bu r
 |s7(w:way=7):Out g j n o way j g Bu []
theorem Hm{st:Int}:(strd V' st ns).flatten=grp V' st ns:=by
 delta strd grp
 simp only[gZ,jI,bG]
theorem Out.sub(h:Out g j n o way j' g' az rows):rows.Sublist (grp g.V j.start j.nums):=by
 induction h using Out.casesOn with
 |e2=>show .refl _
 |st i r w h=>show Hm▸l7 (aX h)
 |_=>show jF _
theorem Sw{rows:List Row}(C:CH H x s y (j.objs z x.a++l) g)(I:DI s (b+rows.length))(R:Room g)(J:Jok j s.blocks)(hr:∀r∈rows,r∈grp g.V j.start j.nums)(hc:(exec s rows).1=true->∀H' u,HL H' ((exec s rows).2.objs {y with u:=u}++l)->F.KX 95 H'):
  Ru.Ok {x,y,j.objs z x.a++l,rows,s,g,b,F.KX 95}/\Ru.At {x,y,j.objs z x.a++l,rows,s,g,b,F.KX 95} rows H/\∀n∈j.nums,Ru.St {x,y,j.objs z x.a++l,rows,s,g,b,F.KX 95} n:=
 ⟨{I,λq hq=>Om J (λc=>C.len) q (hr q hq),R,λe H' u h=>hc e H' u (h.sub (.append (.refl _) (bW ..)))},{[],rfl,y.u,rfl,C},λn hn p hp e=>by
   rcases Nq J (hr _ hp) with⟨h1,_⟩|⟨h1,h2⟩
   .show absurd (e▸h1) (J.nums n hn).2
   .show e▸h2⟩
theorem Xm{vs:List V}(hT:(633,.tab)∈F.cl/\(640,.tab)∈F.cl)(C:CH H x s y (j.objs z x.a++l) g)(I:DI s (b+(grp g.V j.start j.nums).length))(R:Room g)(J:Jok j s.blocks)(hp:∀m∈j.nums,g.p m≠0)(hw:0<=way/\way<=7)(hn:way=1->(0<=n/\n<s.blocks)/\o.length=16/\¬ (j.start<=n/\n<j.start+(j.pl+1)))
  (hc:∀j' g' az rows,Out g j n o way j' g' az rows->(exec s rows).1=true->∀H' u,HL H' ((exec s rows).2.objs {y with u:=u}++l)->F.KX 95 H')
  (hK:∀j' g' az rows,Out g j n o way j' g' az rows->(exec s rows).1=false->∀H' u z' B,z'.a=z.a->(∀m,g.used m->B m=g.B m)->CH H' x (exec s rows).2 {y with u:=u} (j'.objs z' x.a++l) {g' with B:=B}->K (.str az) H') :
  WC F.u.u.u.u.u.u.u.u.u.u.u.u.u ↑645 [↑x.a,↑z.a,.tup (v0::.int way::.int n::.bytes o::vs)] H K:=by
 have hl:j.nums.length<=100:=by have:=J.len;have:=J.pl;show lin 0xc2d02f60f65616e9c049 10535 tt ‹_› this
 have K0:∀{j' g' az},Out g j n o way j' g' az []->g'.B=g.B->∀H',CH H' x s y (j'.objs z x.a++l) g'->K (.str az) H':=λ{j' g' az}h e H' C'=>hK _ _ _ _ h rfl H' y.u z g'.B rfl (λm c=>congrFun e m) C';have meet:∀{w:Int}{lp:ki}{body:cR}{ex:Ex}{np cp:ki},tr [("journal",.free)] gT 50 false body=ex->(∀l,ev {F.u.u.u.u.u.u.u.u.u.u.bd with cl:=l++F.cl,KX:=metX F.KX K} [("journal",.free)] 60 ex [some ↑z.a] H λc H'=>K (.str Bu) H')->WE {F.u.u.u.u.u.u.u.u.u.u.u.u.bd with code:=some 644} (lc (A9 (tst 38)).names [some ↑x.a,some ↑z.a,some (.tup (v0::.int w::.int n::.bytes o::vs)),some (.int w)]) H (.Call (.Name "_law_met" np) [.Lambda {posonlyargs:=[],args:=[],vararg:=none,kwonlyargs:=[],kw_defaults:=[],kwarg:=none,defaults:=[]} body {kind:=.function,names:=[("journal",.free)],isGenerator:=false,isCoroutine:=false} lp] [] cp) K:=λt h=>
  WE.met (F:={F.u.u.u.u.u.u.u.u.u.u.bd with code:=some 644}) (mc:=lc [("journal",.free)] [some ↑z.a]) rfl hT.2 Xl (dte tt) (λc=>rfl) (.cons (Ah (i:=1) rfl) (.inl rfl) .nil) {rfl,rfl,rfl,rfl,by decide +kernel} (λc c c c c c=>rfl) (Ah (i:=4) rfl) λl=>exE Al t (h l)
 have str:∀{i:Nat}{r:List Row},(strd g.V j.start j.nums)[i]?=some r->way=3+i->Ru.Ok {x,y,j.objs z x.a++l,r,s,g,b,F.KX 95}/\Ru.At {x,y,j.objs z x.a++l,r,s,g,b,F.KX 95} (r++[]) H/\(∀n∈j.nums,Ru.St {x,y,j.objs z x.a++l,r,s,g,b,F.KX 95} n)/\∀H',Ru.At {x,y,j.objs z x.a++l,r,s,g,b,F.KX 95} [] H'->K (.str Bu) H':=λ{i r}e ew=>by
  have O:Out g j n o way j (g.b5 r) Bu r:=.st i r ew e;have S:=Sw (rows:=r) C (I.less (fC O.sub.length_le b)) R J (λr h=>O.sub.subset h) (hc _ _ _ _ O);show{S.1,by rw[bG];show S.2.1,S.2.2,λH' a=>?_};obtain⟨u,e2,C2⟩:=a.done;show hK _ _ _ _ O e2 H' u z _ rfl (λm c=>congrFun Gk.2.2.1 m) C2
 show entL0 63 rfl Xk rfl ?_;apply @evS Y _ _ _ _ _ _;show G2.tup (w:=.int way) '#' (dte tt) rfl ?_;rcases (by lia:way=0\/way=1\/way=2\/way=3\/way=4\/way=5\/way=6\/way=7) with e|e|e|e|e|e|e|e<;>rw[e]
 .show meet (ex:=.af 'A' "begin" []) rfl λl=>?_;show Av.at C.tail 0 1 rfl rfl A6 (Ao 28 rfl) rfl (Ur (F:={F.u.u.u.u.u.u.u.bd with cl:=l++F.cl,KX:=metX F.KX K}) C hl J.calls J.each (λh H' C'=>.inl {rfl,K0 (.b0 e h) rfl H' C'}) λh H' C'=>K0 (.b1 e h) rfl H' C')
 .apply Y;obtain⟨hn,ho,hw⟩:=hn e;show G2.tup (w:=.int n) (dte tt) (dte tt) rfl (G2.tup (w:=.bytes o) (dte tt) '#' rfl ?_);show put_ok (F:={F.u.u.u.u.u.bd with code:=some 644}) hT.1 C I.ok I.on R J hp hn ho hw (λa=>K0 (.w0 e a) rfl) (λa h=>K0 (.w1 e a h) rfl) (λa h h2=>K0 (.w2 e a h h2) rfl) λa h h2 H' B hB C'=>hK _ _ _ _ (.w3 e a h h2) rfl H' y.u z B rfl hB C'
 .show meet (ex:=.af 'A' "end" []) rfl λl'=>?_;show Av.at C.tail 0 1 rfl rfl A6 (Ao 30 rfl) rfl (end_ok (F:={F.bd with cl:=l'++F.cl,KX:=metX F.KX K}) C I R J hp (λa H' C'=>.inr (.inl {rfl,K0 (.e0 e a) rfl H' C'})) (λa e1 H' C'=>K0 (.e1 e a e1) rfl H' C') (λa e1 ex H' u h=>.inr (.inr {rfl,hc _ _ _ _ (.e2 e a e1) ex H' u (h.sub (.append (.refl _) (bW ..)))})) λa e1 ex H' u z' ez C'=>hK _ _ _ _ (.e2 e a e1) ex H' u z' _ ez (λm c=>congrFun Gk.2.2.1 m) C')
 .obtain⟨ok,a,st,fin⟩:=str (i:=0) rfl e;show Av.at C.tail 0 1 rfl rfl A6 (Ao 32 rfl) rfl (Ih (F:={F.u.u.u.u.bd with code:=some 644}) (R:=[]) rfl a ok rfl (λn hn=>{(J.nums n hn).1,st n hn}) fin)
 .obtain⟨ok,a,st,fin⟩:=str (i:=1) rfl e;show Av.at C.tail 0 1 rfl rfl A6 (Ao 33 rfl) rfl (Aa.at C.tail 0 1 rfl rfl A6 (A8 28) rfl (Ck (F:={F.u.u.u.u.bd with code:=some 644}) (R:=[]) rfl a ok rfl {rfl,C.tail.get 2 rfl} J.small fin))
 .obtain⟨ok,a,st,fin⟩:=str (i:=2) rfl e;show Av.at C.tail 0 1 rfl rfl A6 (Ao 34 rfl) rfl (Aa.at C.tail 0 1 rfl rfl A6 (A8 28) rfl (Go (F:={F.u.u.u.u.bd with code:=some 644}) (R:=[]) (o:=some z.q) rfl a ok rfl (λH' h=>{rfl,h.get 2 rfl}) (λk n e=>{(J.nums n (aX e)).1,st n (aX e)}) fin))
 .obtain⟨ok,a,st,fin⟩:=str (i:=3) rfl e;show Av.at C.tail 0 1 rfl rfl A6 (Ao 33 rfl) rfl {(nle tt:0<=2^20),.data (Ck (F:={F.u.u.u.u.bd with code:=some 644}) (R:=[]) (ns:=[]) (o:=none) rfl a ok rfl ⟨rfl,rfl⟩ {nle tt,λc h=>absurd h aD} fin)}
 .show K0 (.s7 e) rfl _ C
end
section
variable{w:W}{b c:Bk}{k i way n:Int}{t:Nat}{o:Oct}{s:DS}{g:CG}{j:JS}{cm:Int->Int}{nt:Int->List (Int×Oct)}{az:bY}{rows:List Row}{j':JS}{g':CG}
def bj(w:W)(b:Bk)(cm:Int->Int)(k:Int):JS:={start:=w.st k,pl:=w.pl k,each:=w.each k,nums:=keys (b.a8 k),calls:=b.calls k,ay:=cm k}
structure Rl(w:W)(nt:Int->List (Int×Oct))(s:DS)(g:CG):Prop where
 most:g.most=w.room
 h:∀n,g.h n=if n=w.held 0\/n=w.held 1 then 1 else 0
 p1:∀k,K2 k->∀n∈keys (nt k),g.p n=1
 p0:∀n,(∀k,K2 k->n∉keys (nt k))->g.p n=0
 v:∀k,K2 k->∀q∈nt k,g.V q.1=q.2
 c:∀n,g.p n=0->s.at_ n=g.V n
def Sl(w:W)(b:Bk)(k:Int):Prop:=(b.av k=false/\b.strides k=[])\/(b.av k=true/\b.a8 k≠[]/\∃i,b.strides k=(strd (aq (b.a8 k)) (w.st k) (keys (b.a8 k))).drop i)
theorem Rl.room(rl:Rl w nt s g)(wo:WOk w)(hl:∀k,K2 k->((nt k).length:Int)<=w.pl k):Room g:=by
 show{keys (nt 0)++(keys (nt 1)++[w.held 0,w.held 1]),λm u=>?_,?_}
 .by_cases e:m=w.held 0\/m=w.held 1
  .show aG _ (aG _ (e.elim (λe=>e▸.head _) λe=>e▸.tail _ (.head _)))
  .apply Y;have:=u ((rl.h m).trans (if_neg e));by_cases e0:m∈keys (nt 0)
   .show aU _ e0
   .by_cases e1:m∈keys (nt 1)
    .show aG _ (aU _ e1)
    .show absurd (rl.p0 m λk hk=>by rcases hk with rfl|rfl;show e0;show e1) this
 .have:=hl 0 (.inl rfl);have:=hl 1 (.inr rfl);have:=wo.room;simp only[rl.most,aV,aV,aA,aA];change((_+(_+2):Nat):Int)<_;omega
theorem D8{l:List (Int×Oct)}:m∈keys l↔(lget l m).isSome=true:=by
 induction l with
 |nil=>show{λh=>(absurd h aD),λh=>(aR h)}
 |cons q r ih=>
  rcases bB (q.1=m) with e|e
  .rw[E1 e];show{λa=>rfl,λa=>e▸.head _}
  .rw[De e,<- ih];show{λh=>(aS.mp h).resolve_left (fQ e),.tail _}
theorem Oy(nd:(keys (nt k)).Nodup)(h:q∈nt k):aq (nt k) q.1=q.2:=by
 unfold aq;rw[(G5 nd h)];rfl
theorem Rl.aq(rl:Rl w nt s g)(hk:K2 k)(nd:(keys (nt k)).Nodup)(hn:n∈keys (nt k)):g.V n=Mine.aq (nt k) n:=by
 obtain⟨q,hq,rfl⟩:=aE.mp hn;show(rl.v k hk q hq).trans (Oy nd hq).symm
theorem Qe:∀{ns:List Int}{st:Int},(∀n∈ns,V1 n=V2 n)->logR V1 st ns=logR V2 st ns:=by
 intro l9
 induction l9 with
 |nil=>intro z1 z2;show rfl
 |cons n r ih =>
  intro st h;change some (st,V1 n)::logR V1 (st+1) r=some (st,V2 n)::logR V2 (st+1) r;simp only[h n (.head _),ih λm hm=>h m (.tail _ hm)]
theorem Qf:∀{ns:List Int}{st:Int},(∀n∈ns,V1 n=V2 n)->insR V1 false st ns=insR V2 false st ns:=by
 intro l9
 induction l9 with
 |nil=>intro z1 z2;show rfl
 |cons n r ih =>
  intro st h;change some (n,V1 n)::insR V1 false (st+1) r=some (n,V2 n)::insR V2 false (st+1) r;simp only[h n (.head _),ih λm hm=>h m (.tail _ hm)]
theorem Jl{st:Int}(h:∀n∈ns,V1 n=V2 n):strd V1 st ns=strd V2 st ns:=by unfold strd;rw[Qe h,Qf h]
theorem Rl.b5(rl:Rl w nt s g)(wo:WOk w)(hk:K2 k)(ow:∀i,K2 i->∀q∈nt i,q.1∈w.own i)(hl:((nt k).length:Int)<=w.pl k)(hr:∀r∈rows,r∈grp g.V (w.st k) (keys (nt k)))(e:(exec s rows).1=false):Rl w nt (exec s rows).2 (g.b5 rows):=by
 apply Y;obtain⟨e1,e2,e3,e4⟩:=Gk (g:=g) (rs:=rows);show{e4.trans rl.most,λn=>(e1▸rl.h n),λi hi n hn=>(e2▸rl.p1 i hi n hn),λn hn=>by rw[e2];show rl.p0 n hn,λi hi q hq=>?_,λn h=>On e (.inl (rl.c n (by rw[e2]at h;show h)))};show(Mm λp hp ep=>?_).trans (rl.v i hi q hq);have no:=wo.lg i k q.1 hi hk (ow i hi q hq);rcases aZ.mp (hr _ hp) with h|h
 .obtain⟨h1,a⟩:=Ol h;show absurd {(cO (cF ‹_›)),by rw[(aA ..)]at h1;show lin 0x61e817b6540d4c5616a66caa73159 10535 tt hl h1} (ep▸no)
 rcases aZ.mp h with h|h
 .show absurd {by rw[Cy h];show bM _,by rw[Cy h];change w.st k<_;lia} (ep▸no)
 rcases aZ.mp h with h|h
 .obtain⟨a,a,a,e⟩:=Hi h;show e.trans (by rw[if_neg bJ,ep])
 .show absurd {by rw[Cy h];show bM _,by rw[Cy h];change w.st k<_;lia} (ep▸no)
theorem Out.inv_st{i:Nat}(hi:i<=4)(h:Out g j n o (3+i) j' g' az rows):j'=j/\g'=g.b5 rows/\az=Bu/\rows=((strd g.V j.start j.nums)[i]?).getD []:=by
 induction h using Out.casesOn with
 |st i' r e h=>
  clear hi;obtain rfl:i'=i:=lin 0x74a811ee5410f6b1042 9666856 tt e;show{rfl,rfl,rfl,by rw[h];rfl}
 |s7 e=>
  clear hi;obtain rfl:i=4:=lin 0x1c7dca811ed64d841 9699623 tt e;show⟨rfl,rfl,rfl,rfl⟩
 |_=>omega
theorem Cz:(Bj w b k way).a8=b.a8/\(Bj w b k way).calls=b.calls:=by
 delta Bj Bk.aw
 cases way==3&&(!(b.a8 k).isEmpty&&!b.av k)<;>show⟨rfl,rfl⟩
theorem Sl.av(h:∀i,K2 i->Sl w b i)(hi:K2 i):Sl w (Bj w b k way) i:=by
 induction e:way==3&&(!(b.a8 k).isEmpty&&!b.av k) using Bool.casesOn with
 |false=>
  have:Bj w b k way=b:=by unfold Bj;rw[e];rfl
  show this.symm▸h i hi
 |true=>
  have e1:(Bj w b k way).av=upd b.av k true/\(Bj w b k way).strides=upd b.strides k (strd (aq (b.a8 k)) (w.st k) (keys (b.a8 k))):=by
   unfold Bj;rw[e];show⟨rfl,rfl⟩
  obtain⟨_,e⟩:=aT.mp e;unfold Sl;rw[e1.1,e1.2,Cz.1];by_cases ek:i=k
  .clear e1;rw[ek];rw[Ag,Ag];show .inr {rfl,λy=>?_,0,rfl};rw[y]at e;show aR e
  .rw[Af ek,Af ek];show h i hi
theorem Sx{V':Int->Oct}{st:Int}{ns:List Int}(i:Nat):∃i':Nat,i'<=4/\(7:Int)-((strd V' st ns).drop i).length=3+i'/\(((strd V' st ns).drop i).take 1).flatten=((strd V' st ns)[i']?).getD []/\(((strd V' st ns).drop i).drop 1)=(strd V' st ns).drop (i'+1):=by
 rcases i with _|_|_|_|i
 .show{0,nle tt,rfl,bG _,rfl}
 .show{1,nle tt,rfl,bG _,rfl}
 .show{2,nle tt,rfl,bG _,rfl}
 .show{3,nle tt,rfl,bG _,rfl}
 have e:(strd V' st ns).drop (i+4)=[]:=g9 (gg _ _);show e▸{4,nle tt,rfl,rfl,rfl}
structure Does(w:W)(b':Bk)(k:Int)(cm:Int->Int)(D:Deed)(s:DS)(j':JS)(g':CG)(az:bY)(rows:List Row):Prop where
 et:az=D.az
 er:rows=D.rows
 ej:∃c,j'=bj w b' (upd cm k c) k
 rl:(exec s rows).1=false->Rl w b'.a8 (exec s rows).2 g'
theorem Qg(wo:WOk w)(hk:K2 k)(bi:BIk w c k t)(sl:Sl w c k)(rl:Rl w c.a8 s g)(ow:∀i,K2 i->∀q∈c.a8 i,q.1∈w.own i)(h:Out g (bj w c cm k) (Ga w c k n o).2.n (Ga w c k n o).2.o (Ga w c k n o).2.way j' g' az rows):Does w (Ga w c k n o).1 k cm (Ga w c k n o).2 s j' g' az rows:=by
 apply @Does _ Y _ _ _ _ _ _ _ _;obtain⟨i,hi,e1,e2⟩:∃i:Nat,i<=4/\(7:Int)-(c.strides k).length=3+i/\((c.strides k).take 1).flatten=((strd g.V (w.st k) (keys (c.a8 k)))[i]?).getD []:=by
  rcases sl with⟨a,e⟩|⟨a,a,i,e⟩
  .rw[e];show{4,nle tt,rfl,rfl}
  .rw[e,(Jl λn hn=>rl.aq hk bi.nd hn:strd g.V (w.st k) (keys (c.a8 k))=strd (aq (c.a8 k)) (w.st k) (keys (c.a8 k)))];apply Y;obtain⟨i',h1,h2,h3,a⟩:=Sx (V':=aq (c.a8 k)) (st:=w.st k) (ns:=keys (c.a8 k)) i;show⟨i',h1,h2,h3⟩
 rw[show(Ga w c k n o).2.way=3+i from e1]at h;have sub:=h.sub;obtain⟨rfl,rfl,rfl,er⟩:=h.inv_st hi;show{rfl,er.trans e2.symm,{cm k,?_},λex=>Rl.b5 rl wo hk ow bi.len (λr h=>sub.subset h) ex};unfold bj;simp only[Ag];rfl
theorem Ik{α:Type}{f:Int->α}:upd f k (f k)=f:=funext λa=>Cb
theorem Kv(e:j0=bj w c cm k):∃d,j0=bj w c (upd cm k d) k:={cm k,by rw[Ik];show e}
theorem Rl.self(rl:Rl w nt s g):(exec s []).1=false->Rl w nt (exec s []).2 g:=λa=>rl
theorem Rl.note(rl:Rl w nt s g)(hk:K2 k)(nd:(keys (nt k)).Nodup)(dis:∀i,K2 i->i≠k->n∉keys (nt i))(hp:p=upd g.p n 1):Rl w (upd nt k (lput (nt k) n o)) s {g.put n o with p:=p}:=by
 subst hp;have mk:∀{m},m∈keys (lput (nt k) n o)->m≠n->m∈keys (nt k):=λ{m}h e=>by
  rw[D8,Et,if_neg e]at h;show D8.mpr h
 show{rl.most,rl.h,λi hi m hm=>?_,λm hm=>?_,λi hi q hq=>?_,λm hm=>?_}
 .change upd g.p n 1 m=1;by_cases e:m=n
  .rw[e,Ag]
  .rw[Af e];by_cases ei:i=k
   .rw[ei,Ag]at hm;show rl.p1 k hk m (mk hm e)
   .rw[Af ei]at hm;show rl.p1 i hi m hm
 .change upd g.p n 1 m=0;have e:m≠n:=λe=>hm k hk (by rw[Ag,D8,Et,if_pos e];rfl);rw[Af e];show rl.p0 m λi hi h=>hm i hi ?_;by_cases ei:i=k
  .rw[ei,Ag,D8,Et,if_neg e];rw[ei,D8]at h;show h
  .rw[Af ei];show h
 .change upd g.V n o q.1=q.2;by_cases ei:i=k
  .rw[ei,Ag]at hq;by_cases e:q.1=n
   .have nd2:=S7 (n:=n) (o:=o) nd;have h1:=G5 nd2 hq;rw[Et,if_pos e]at h1;clear rl hk nd dis mk i hi hq ei nd2;injection h1 with h1;subst h1;simp only[e,Ag]
   .rw[Af e];show rl.v k hk q ((Kl hq).resolve_left λy=>e (congrArg _ y))
  .rw[Af ei]at hq;rw[Af λe=>dis i hi ei (aE.mpr ⟨q,hq,e⟩)];show rl.v i hi q hq
 .have e:m≠n:=λy=>by clear dis mk;subst y;rw[show({g.put m o with p:=upd g.p m 1}:CG).p m=1 from Ag]at hm;show absurd hm (dte tt)
  change s.at_ m=upd g.V n o m;rw[Af e];show rl.c m ((Af e).symm.trans hm)
theorem Rl.done(rl:Rl w nt s g)(wo:WOk w)(hk:K2 k)(ow:∀i,K2 i->∀q∈nt i,q.1∈w.own i)(hl:((nt k).length:Int)<=w.pl k)(dis:∀i,K2 i->i≠k->∀m∈keys (nt i),m∉keys (nt k))(e:(exec s (grp g.V (w.st k) (keys (nt k)))).1=false):
  Rl w (upd nt k []) (exec s (grp g.V (w.st k) (keys (nt k)))).2 ((g.b5 (grp g.V (w.st k) (keys (nt k)))).minus (keys (nt k))):=by
 have r2:=Rl.b5 rl wo hk ow hl (λr h=>h) e;have hat:∀m∈keys (nt k),(exec s (grp g.V (w.st k) (keys (nt k)))).2.at_ m=(g.b5 (grp g.V (w.st k) (keys (nt k)))).V m:=λn hn=>On e (.inr {g.V n,aG _ (aG _ (aU _ (Nr hn)))});generalize g.b5 (grp g.V (w.st k) (keys (nt k)))=g2 at r2 hat ⊢;show{r2.most,r2.h,λi hi m hm=>?_,λm hm=>?_,λi hi q hq=>?_,λm hm=>?_}
 .by_cases ei:i=k
  .rw[ei,Ag]at hm;show absurd hm aD
  .rw[Af ei]at hm;show(if_neg (dis i hi ei m hm)).trans (r2.p1 i hi m hm)
 .change(if m∈keys (nt k) then g2.p m-1 else g2.p m)=0;by_cases h:m∈keys (nt k)
  .rw[if_pos h,r2.p1 k hk m h];rfl
  .rw[if_neg h];show r2.p0 m λi hi h2=>hm i hi ?_;rw[Af λy=>h (by show y▸h2)];show h2
 .by_cases ei:i=k
  .rw[ei,Ag]at hq;show absurd hq aD
  .rw[Af ei]at hq;show r2.v i hi q hq
 .by_cases h:m∈keys (nt k)
  .show hat m h
  .show r2.c m ((if_neg h).symm.trans hm)
theorem Xn(h:n∈keys m):keys (lput m n o)=keys m:=by
 induction m with
 |nil=>show absurd h aD
 |cons q r ih=>
  obtain⟨j,v⟩:=q;rcases bB (j=n) with e|e
  .rw[Fi e];rfl
  .rw[Fj e];show congrArg (cW j) (ih ((aS.mp h).resolve_left (fQ e)))
theorem Qh(wo:WOk w)(hk:K2 k)(hw:0<=way/\way<=2)(bi:BI w c t)(rl:Rl w c.a8 s g)(dr:way=1->n∈w.own k)(h:Out g (bj w c cm k) n o way j' g' az rows):Does w (Q6 w c k way n o).1 k cm (Q6 w c k way n o).2 s j' g' az rows:=by
 have bk:=bi k hk;have kl:(keys (c.a8 k)).length=(c.a8 k).length:=aA ..;have ow:=λi hi q hq=>((bi i hi).ow q hq).1;have dj:∀i,K2 i->i≠k->∀m∈w.own k,m∉keys (c.a8 i):=λi hi ne m hm h=>by
  obtain⟨q,hq,rfl⟩:=aE.mp h;have:=ow i hi q hq;clear hw bi rl dr bk kl ow hq h;rcases hk with rfl|rfl<;>rcases hi with rfl|rfl<;>first|show ne rfl|show wo.dis _ hm this|show wo.dis _ this hm
 have fin:∀{c' told' rows' j' g' az rows},dueB w c k way n o=(c',told',rows')->az=told'->rows=rows'->(∃d,j'=bj w c' (upd cm k d) k)->((exec s rows).1=false->Rl w c'.a8 (exec s rows).2 g')->Does w (Q6 w c k way n o).1 k cm (Q6 w c k way n o).2 s j' g' az rows:=λe h1 h2 h3 h4=>by
  unfold Q6;show e▸⟨h1,h2,h3,h4⟩
 induction h using Out.casesOn with
 |b0 ew h=>
  show fin (c':=c) (told':=Kq) (rows':=[]) ?_ rfl rfl (Kv rfl) rl.self;rw[ew];unfold dueB;rw[decide_eq_true (by rw[<- kl];show gA.mp h)];rfl
 |b1 ew h=>
  show fin (c':={c with calls:=upd c.calls k (c.calls k+1)}) (told':=Bu) (rows':=[]) ?_ rfl rfl {cm k,by unfold bj;dsimp only;simp only[Ag]} rl.self;rw[ew];unfold dueB;rw[decide_eq_false (by rw[<- kl];show nU.mpr h)];rfl
 |w0 ew h=>
  show fin (c':=c) (told':=sArg) (rows':=[]) ?_ rfl rfl (Kv rfl) rl.self;rw[ew];unfold dueB;rw[show c.calls k=0 from h];rfl
 |w1 ew h h1=>
  show fin (c':={c with a8:=upd c.a8 k (lput (c.a8 k) n o)}) (told':=Bu) (rows':=[]) ?_ rfl rfl {cm k,by unfold bj;dsimp only;simp only[Ag,Xn h1]} λa=>rl.note hk bk.nd (λi hi ne=>dj i hi ne n (dr ew)) (by rw[<- rl.p1 k hk n h1];show Ik.symm);rw[ew];unfold dueB;rw[show(c.calls k==0)=false from beq_eq_false_iff_ne.mpr h,D8.mp h1];rfl
 |w2 ew h h1 h2=>
  show fin (c':=c) (told':=Kq) (rows':=[]) ?_ rfl rfl (Kv rfl) rl.self;have h1:n∉keys (c.a8 k):=h1;rw[D8]at h1;have h2:w.pl k<=((keys (c.a8 k)).length:Int):=h2;rw[kl]at h2;rw[ew];unfold dueB;simp only[show(c.calls k==0)=false from beq_eq_false_iff_ne.mpr h,h1,beq_iff_eq.mpr (pn bk.len h2)];rfl
 |w3 ew h h1 h2=>
  have p0:=rl.p0 n λi hi hm=>by
   by_cases ei:i=k
   .show h1 (ei▸hm)
   .show dj i hi ei n (dr ew) hm
  show fin (c':={c with a8:=upd c.a8 k (lput (c.a8 k) n o)}) (told':=Bu) (rows':=[]) ?_ rfl rfl {cm k,?_} λa=>rl.note hk bk.nd (λi hi ne=>dj i hi ne n (dr ew)) (by rw[p0];rfl)
  .have h1:n∉keys (c.a8 k):=h1;rw[D8]at h1;have h2:¬ w.pl k<=((keys (c.a8 k)).length:Int):=h2;rw[kl]at h2;simp only[ew];unfold dueB;simp only[show(c.calls k==0)=false from beq_eq_false_iff_ne.mpr h,h1,show(((c.a8 k).length:Int)==w.pl k)=false from beq_eq_false_iff_ne.mpr λe=>h2 (dY e.symm)];rfl
  .unfold bj;dsimp only;simp only[Ag,Hg h1];unfold keys;simp only[aJ];rfl
 |e0 ew h=>
  show fin (c':=c) (told':=sArg) (rows':=[]) ?_ rfl rfl (Kv rfl) rl.self;rw[ew];unfold dueB;rw[show c.calls k=0 from h];rfl
 |e1 ew h h1=>
  show fin (c':={c with calls:=upd c.calls k (c.calls k-1)}) (told':=Bu) (rows':=[]) ?_ rfl rfl {cm k,by unfold bj;dsimp only;simp only[Ag]} rl.self;have:(decide (0<c.calls k-1)||(c.a8 k).isEmpty)=true:=by
   by_cases e:0<c.calls k-1
   .rw[decide_eq_true e];rfl
   .rw[show c.a8 k=[] from eN λy=>h1 ⟨by have:=bk.ca;change c.calls k=1;have h:c.calls k≠0:=h;lia,λy2=>y (eZ.mp y2)⟩,pZ];rfl
  rw[ew];unfold dueB;rw[show(c.calls k==0)=false from beq_eq_false_iff_ne.mpr h,this];rfl
 |e2 ew h h1=>
  have h:c.calls k=1:=h;show fin (c':={ ({c with calls:=upd c.calls k (c.calls k-1)}:Bk).aw k with a8:=upd c.a8 k []}) (told':=Bu) (rows':=(strd (aq (c.a8 k)) (w.st k) (keys (c.a8 k))).flatten) ?_ rfl ?_ {cm k+1,?_} λe=>Rl.done rl wo hk ow bk.len (λi hi ne m hm h=>?_) e
  .have:(c.a8 k).isEmpty=false:=by
    cases e:c.a8 k with
    |nil=>show absurd (by change keys (c.a8 k)=[];rw[e];rfl) h1
    |cons=>rfl
   rw[ew];unfold dueB;rw[h,this];rfl
  .rw[<- Jl λn hn=>rl.aq hk bk.nd hn];rfl
  .delta bj Bk.aw;dsimp only;simp only[Ag];rfl
  .obtain⟨q,hq,e⟩:=aE.mp h;show dj i hi ne m (e▸ow k hk q hq) hm
 |st i r ew h=>lia
 |s7 ew=>lia
variable{d:Bk}{D D':List Deed}
theorem Xo:bj w (Bj w b k way) cm i=bj w b cm i:=by unfold bj;rw[Cz.1,Cz.2]
theorem Sy(wo:WOk w)(hk:K2 k)(hw:0<=way/\way<=3)(bi:BI w b t)(sl:∀i,K2 i->Sl w b i)(rl:Rl w b.a8 s g)(dr:Ez w (Bj w b k way) k way n o)(h:Out g (bj w b cm k) (Au w b k way n o).2.n (Au w b k way n o).2.o (Au w b k way n o).2.way j' g' az rows):
  Does w (Au w b k way n o).1 k cm (Au w b k way n o).2 s j' g' az rows:=by
 have bi2:=bi.av (way:=way) wo hk;have sl2:=Sl.av (k:=k) (way:=way) sl hk;rw[<- Xo (k:=k) (way:=way)]at h;rw[<- (Cz (w:=w) (b:=b) (k:=k) (way:=way)).1]at rl;unfold Au Hb at h ⊢;generalize Bj w b k way=c at bi2 sl2 h rl dr ⊢
 induction e:way==3||c.av k using Bool.casesOn with
 |true=>
  rw[e]at h;show Qg wo hk (bi2 k hk) sl2 rl (λi hi q hq=>((bi2 i hi).ow q hq).1) h
 |false=>
  rw[e]at h;obtain⟨e1,e2⟩:=gG.mp e;show Qh wo hk (by show{by show lin 0xf60f65616cc2d88 295 tt hw,Int.lt_add_one_iff.mp (Int.lt_iff_le_and_ne.mpr {hw.2,λq=>by rw[q]at e;show aR e})}) bi2 rl (λy=>?_) h;unfold Ez at dr;simp only[e2,y]at dr;show dr.1
theorem Il(ne:i≠k):(dueB w c k way n o).1.a8 i=c.a8 i/\(dueB w c k way n o).1.calls i=c.calls i/\(dueB w c k way n o).1.av=c.av/\(dueB w c k way n o).1.strides=c.strides:=by
 unfold dueB Bk.aw
 cases way==0
 .cases c.calls k==0
  .cases way==1
   .cases decide (0<c.calls k-1)||(c.a8 k).isEmpty<;>show{by first|rfl|show Af ne,Af ne,rfl,rfl}
   .cases !(lget (c.a8 k) n).isSome&&(((c.a8 k).length:Int)==w.pl k)<;>show{by first|rfl|show Af ne,rfl,rfl,rfl}
  .show⟨rfl,rfl,rfl,rfl⟩
 .cases decide (w.pl k<((c.a8 k).length:Int)+(c.calls k+1)*w.each k)<;>show{rfl,by first|rfl|show Af ne,rfl,rfl}
theorem Qi(ne:i≠k):(Au w b k way n o).1.a8 i=b.a8 i/\(Au w b k way n o).1.calls i=b.calls i:=by
 simp only[<- (Cz (w:=w) (b:=b) (k:=k) (way:=way)).1,<- (Cz (w:=w) (b:=b) (k:=k) (way:=way)).2];unfold Au Hb
 cases way==3||(Bj w b k way).av k with
 |true=>show⟨rfl,rfl⟩
 |false=>apply Y;obtain⟨h1,h2,a⟩:=Il (w:=w) (c:=Bj w b k way) (way:=way) (n:=n) (o:=o) ne;show⟨h1,h2⟩
theorem Sl.cu(sl:∀i,K2 i->Sl w b i)(hk:K2 k)(hi:K2 i):Sl w (Au w b k way n o).1 i:=by
 have sl2:=λi hi=>Sl.av (k:=k) (way:=way) (i:=i) sl hi;unfold Au Hb;generalize Bj w b k way=c at sl2 ⊢;have s:=sl2 i hi
 induction e:way==3||c.av k using Bool.casesOn with
 |true=>
  by_cases ei:i=k
  .clear e;subst ei;have e1:(Ga w c i n o).1.strides i=(c.strides i).drop 1:=Ag;rcases s with⟨h1,h2⟩|⟨h1,h2,p,h3⟩
   .show .inl {h1,by simp only[cond_true,e1,h2];rfl}
   .show .inr {h1,h2,p+1,by simp only[cond_true,e1,h3,List.drop_drop];rfl}
  .have e1:(Ga w c k n o).1.strides i=c.strides i:=Af ei;unfold Sl at s ⊢;simp only[cond_true,e1];show s
 |false=>
  obtain⟨_,e2⟩:=gG.mp e;obtain⟨h3,h4⟩:(dueB w c k way n o).1.av=c.av/\(dueB w c k way n o).1.strides=c.strides:=by
   have:=Il (w:=w) (c:=c) (k:=k) (i:=k+1) (way:=way) (n:=n) (o:=o) (lin 1103472968 7 tt);show this.2.2
  change Sl w (dueB w c k way n o).1 i;rcases bB (i=k) with ei|ei
  .clear hk e;subst ei;show .inl {by rw[h3];show e2,?_};rw[h4];rcases s with⟨a,h2⟩|⟨h1,a⟩
   .show h2
   .rw[e2]at h1;show aR h1
  .unfold Sl at s ⊢;rw[h3,h4,(Il ei).1];show s
class inductive Fw(w:W):Bk->List Deed->Bk->Prop
 |nil(b:Bk):Fw w b [] b
 |cons{b c:Bk}{D:List Deed}{k way n:Int}{o:Oct}(hk:K2 k)(hw:0<=way/\way<=3)(hd:Ez w (Bj w b k way) k way n o)(h:Fw w (Au w b k way n o).1 D c):Fw w b ((Au w b k way n o).2::D) c
theorem Fw.app(h:Fw w b D c)(h2:Fw w c D' d):Fw w b (D++D') d:=by
 induction h with
 |nil=>show h2
 |cons hk hw hd _ ih=>show .cons hk hw hd (ih h2)
theorem Chain.fw(h:Chain w b D c):Fw w b D c:=by
 induction h with
 |nil=>show .nil _
 |snoc _ hk hw hd ih=>show ih.app (.cons hk hw hd (.nil _))
theorem V7{l:List Int}:∀{σ:List Int},σ.Nodup->(l.foldl me σ).Nodup/\∀m,m∈l.foldl me σ↔m∈σ\/m∈l:=by
 induction l with
 |nil=>show λh=>{h,λm=>{.inl,λh=>h.resolve_right λh=>by contradiction}}
 |cons a l ih=>
  intro σ h;simp only[mo];have e:me σ a=if a∈σ then σ else σ++[a]:=by
   by_cases h:a∈σ
   .show(if_pos (c:=(σ.any λx=>x==a)=true) (gV.mpr {a,h,beq_self_eq_true a})).trans (if_pos h).symm
   .show(if_neg (c:=(σ.any λx=>x==a)=true) λy=>h (by obtain⟨x,h1,h2⟩:=gV.mp y;simp only[<- beq_iff_eq.mp h2];show h1)).trans (if_neg h).symm
  rw[e];by_cases ha:a∈σ
  .rw[if_pos ha];obtain⟨h1,h2⟩:=ih h;show{h1,λm=>(h2 m).trans {λh=>h.imp id (.tail _),λh=>h.elim .inl λh=>(aS.mp h).elim (λe=>.inl (by simp only[e];show ha)) .inr}}
  .rw[if_neg ha];obtain⟨h1,h2⟩:=ih (σ:=σ++[a]) (eC.mpr {h,bX.mpr {λh=>(nomatch h),.nil},λx hx y hy e=>ha (by simp only[<- aP.mp hy,<- e];show hx)});show{h1,λm=>(h2 m).trans {λh=>h.elim (λh=>(aZ.mp h).imp id λh=>by simp only[aP.mp h];show .head _) λh=>.inr (.tail _ h),λh=>h.elim (λh=>.inl (aU _ h)) λh=>(aS.mp h).elim (λe=>.inl (by simp only[e];show aG _ (.head _))) .inr}}
end
section
variable{w:W}{b c d:Bk}{k i way n:Int}{t m:Nat}{o:Oct}{s:DS}{g:CG}{cm:Int->Int}{D:Deed}{rs:List Row}
theorem Nz{s:DS}{i:Nat}(h:i<s.blocks.toNat):s.view[i]?=some (s.at_ i):=by
 unfold DS.view;simp only[bK,List.getElem?_range h];rfl
theorem Sz(h:0<=n/\n<s.blocks):(s.wr n o).view=s.view.set n.toNat o:=by
 show List.ext_getElem? λi=>?_;rcases bB (i<s.blocks.toNat) with hi|hi
 .rw[Nz (s:=s.wr n o) hi,Q1,List.getElem?_set,Dl,if_pos (show n.toNat<_ from tn h),Nz hi];by_cases e:(i:Int)=n
  .rw[if_pos e,if_pos (by show lin 0xe2d04e2d02b104a 12154055976 tt e (bD h.1))]
  .rw[if_neg e,if_neg λk=>e (by rw[<- k];show bD h.1)]
 .rw[mG (by rw[Dl];show g8.mp hi),mG (by rw[kF,Dl];show g8.mp hi)]
theorem T2(hr:∀r∈rs,En bl r):∀{s:DS},s.blocks=bl->(exec s rs).1=false->(exec s rs).2.view=wrV s.view rs:=by
 induction rs with
 |nil=>show λa a=>rfl
 |cons r rs ih=>
  intro s hb e;simp only[Bs]at e ⊢;rcases eo:s.out r<;>rw[eo]at e
  .clear eo;induction r using Option.casesOn with
   |none=>show ih (λq hq=>hr q (.tail _ hq)) (s:=s.fl) hb e
   |some p=>
    show(ih (λq hq=>hr q (.tail _ hq)) (s:=s.wr p.1 p.2) hb e).trans ?_;rw[Sz ((hb▸(hr _ (.head _))).1)];rfl
  .show aR e
theorem W3{l:List (Int×Oct)}:∀{m:List (Int×Oct)},(keys (m++l)).Nodup->lay m l=m++l:=by
 induction l with
 |nil=>show λa=>(bG _).symm
 |cons p r ih=>
  intro m h;have e:lput m p.1 p.2=m++[p]:=Hg λhm=>by
   unfold keys at h;simp only[aJ]at h;show(eC.mp h).2.2 _ hm _ (.head _) rfl
  change lay (lput m p.1 p.2) r=_;rw[e,ih (by rw[aH];show h),aH];rfl
theorem Gp:(Au w b k way n o).2.fresh=mrg ((Au w b k way n o).1.a8 0) ((Au w b k way n o).1.a8 1)/\(Au w b k way n o).2.obs=[(Au w b k way n o).1.calls 0,(Au w b k way n o).1.calls 1,w.pl 0-((Au w b k way n o).1.a8 0).length,w.pl 1-((Au w b k way n o).1.a8 1).length]/\(Au w b k way n o).2.k=k:=by
 unfold Au Hb
 cases way==3||(Bj w b k way).av k<;>show⟨rfl,rfl,rfl⟩
theorem Xp(wo:WOk w)(bi:BI w b t)(rl:Rl w b.a8 s g)(hb:s.blocks=w.blocks)(e1:D.fresh=mrg (b.a8 0) (b.a8 1))(e2:D.obs=[b.calls 0,b.calls 1,w.pl 0-(b.a8 0).length,w.pl 1-(b.a8 1).length]):Sees w s g (bj w b cm 0) (bj w b cm 1) D s.view:=by
 apply Y;have b0:=bi 0 (.inl rfl);have b1:=bi 1 (.inr rfl);have nd:(keys (b.a8 0++b.a8 1)).Nodup:=by
  unfold keys;simp only[aJ];show eC.mpr {b0.nd,b1.nd,λx hx y hy e=>?_};obtain⟨p,hp,rfl⟩:=aE.mp hx;obtain⟨q,hq,rfl⟩:=aE.mp hy;show wo.dis _ (b0.ow p hp).1 (e▸(b1.ow q hq).1)
 have ef:D.fresh=b.a8 0++b.a8 1:=e1.trans (W3 (m:=[]) nd);have mk:∀{m},m∈keys D.fresh->∃k,K2 k/\m∈keys (b.a8 k):=λ{m}h=>by
  apply Y;rw[ef]at h;unfold keys at h;rw[aJ]at h;show(aZ.mp h).elim (λh=>{0,.inl rfl,h}) λh=>{1,.inr rfl,h}
 have km:∀{m k},K2 k->m∈keys (b.a8 k)->m∈keys D.fresh:=λ{m k}hk h=>by
  rw[ef];unfold keys;rw[aJ];apply Y;rcases hk with rfl|rfl
  .show aU _ h
  .show aG _ h
 obtain⟨o1,o2⟩:=V7 (l:=keys D.fresh++[w.held 0,w.held 1]) (σ:=[]) .nil;show{rfl,?_,rl.most,λk hk=>?_,{_,o1,λm=>(o2 m).trans {λh=>?_,λu=>?_},rfl},?_,λn hn=>?_}
 .simp only[e2];unfold bj;dsimp only;rw[(λk=>aA ..),(λk=>aA ..)]
 .rw[rl.h,if_pos (by rcases hk with rfl|rfl;show .inl rfl;show .inr rfl)];decide
 .rcases aZ.mp (h.resolve_left λh=>absurd h aD) with h|h
  .obtain⟨k,hk,h⟩:=mk h;show λa=>by rw[rl.p1 k hk m h];decide
  .show λy=>absurd y ?_;rw[rl.h,if_pos (by apply Y;cases h with
    |head=>show .inl rfl
    |tail _ h=>clear wo bi rl hb e1 e2 b0 b1 nd ef mk km o1 o2 y;cases h with
     |head=>show .inr rfl
     |tail _ h=>show absurd h aD)];decide
 .show .inr (eN λy=>?_);have y1:¬ (m=w.held 0\/m=w.held 1):=λe=>y (aG _ (e.elim (λe=>e▸.head _) λe=>e▸.tail _ (.head _)));show u (by rw[rl.h,if_neg y1]) (rl.p0 m λk hk h=>y (aU _ (km hk h)))
 .simp only[ef,aV];have:=b0.len;have:=b1.len;have:=wo.pl 0 (.inl rfl);have:=wo.pl 1 (.inr rfl);show lin 0x30d40b0b413d83d9986bbd83d9585ba7121052 14035207 tt ‹_› ‹_› ‹_› this
 .unfold Deed.says;by_cases h:n∈keys D.fresh
  .clear wo bi hb e1 e2 b0 b1 mk km o1 o2 hn;obtain⟨q,hq,rfl⟩:=aE.mp h;have e:=G5 (ef▸nd) hq;rw[show lget D.fresh q.1=some q.2 from e];rw[ef]at hq;show(aZ.mp hq).elim (λh=>rl.v 0 (.inl rfl) q h) λh=>rl.v 1 (.inr rfl) q h
  .have e:lget D.fresh n=none:=by
    rw[D8,jE]at h
    induction e:lget D.fresh n using Option.casesOn with
    |none=>rfl
    |some=>rw[e]at h;show aR h
   rw[e,dI,Nz (by show lin 0x38e57b4e661ace3502ca08aa105a 15117640 tt hb hn (bD hn.1) (fR _)),show((n.toNat:Nat):Int)=n by show lin 31172969472073 9699623 tt (bD hn.1)];show(rl.c n (rl.p0 n λk hk hn=>h (km hk hn))).symm
end
section
variable{F:Fx}{H:AH}{K:V->AH->Prop}{w:W}{b b':Bk}{k i way n:Int}{t m:Nat}{o:Oct}{s:DS}{g:CG}{cm:Int->Int}{D:Deed}{x:CA}{y:DA}{z:Int->JA}{L A:List (aK×AObj)}{bx:aK}{N:Int}{bo:AObj}
theorem W4(wo:WOk w)(hk:K2 k)(bi:BIk w b k t)(ht:t<=1000):Jok (bj w b cm k) w.blocks:=by
 have ea:=wo.each k hk;have pl:=wo.pl k hk;have ca:=bi.ca;show{(wo.st k hk).1,pl,{(wo.st k hk).2,wo.bl.2},{(cO (cF ‹_›)),(bH (cL ‹_›) (cL ‹_›))},λn hn=>?_,bi.nd,?_,{ca.1,by change b.calls k<=_;show lin 0x4fd1c0bd9409585b33e8e149 10535 tt ht ca}}
 .obtain⟨q,hq,rfl⟩:=aE.mp hn;have ow:=(bi.ow q hq).1;show{(wo.own k hk).2 _ ow,wo.lg k k _ hk hk ow}
 .change((keys (b.a8 k)).length:Int)<=w.pl k;rw[aA];show bi.len
theorem V8(hk:K2 k)(hw:0<=way/\way<=3)(sr:((Bj w b k way).strides k).length<=4)(dr:Ez w (Bj w b k way) k way n o):(Au w b k way n o).2.n=n/\(Au w b k way n o).2.o=o/\(0<=(Au w b k way n o).2.way/\(Au w b k way n o).2.way<=7)/\((Au w b k way n o).2.way=1->n∈w.own k/\o.length=16):=by
 unfold Au Hb;generalize Bj w b k way=c at sr dr ⊢
 induction e:way==3||c.av k using Bool.casesOn with
 |true=>
  have e1:(Ga w c k n o).2.way=7-((c.strides k).length:Int):=rfl;show{rfl,rfl,?_,λy=>?_}
  .simp only[cond_true,e1];show{by show lin 0x926c2c9d027dd81 263 tt sr,by show lin 26928614555329 225 tt}
  .simp only[cond_true,e1]at y;lia
 |false=>
  obtain⟨_,e2⟩:=gG.mp e;show{rfl,rfl,{hw.1,bH hw.2 (dte tt)},λy=>?_};unfold Ez at dr;rw[e2,show way=1 from y]at dr;show dr
def J2(w:W)(b:Bk)(cm:Int->Int)(z:Int->JA)(x:CA)(L:List (aK×AObj)):List (aK×AObj):=(bj w b cm 0).objs (z 0) x.a++((bj w b cm 1).objs (z 1) x.a++L)
theorem J2.pick(hk:K2 k):(J2 w b cm z x L).Perm ((bj w b cm k).objs (z k) x.a++((bj w b cm (1-k)).objs (z (1-k)) x.a++L)):=by
 apply @List.Perm _ Y _;rcases hk with rfl|rfl
 .show .refl _
 .show dO ..
theorem J2.turn(hk:K2 k)(h:b'.a8 (1-k)=b.a8 (1-k)/\b'.calls (1-k)=b.calls (1-k)):((bj w b' (upd cm k c) k).objs z' x.a++((bj w b cm (1-k)).objs (z (1-k)) x.a++L)).Perm (J2 w b' (upd cm k c) (upd z k z') x L):=by
 have e1:bj w b cm (1-k)=bj w b' (upd cm k c) (1-k):=by unfold bj;simp only[h.1,h.2,Af hk.ne]
 rw[e1,((Af hk.ne).symm:z (1-k)=upd z k z' (1-k)),show z'=upd z k z' k from Ag.symm,Ag];have:=J2.pick (w:=w) (b:=b') (cm:=upd cm k c) (z:=upd z k z') (x:=x) (L:=L) hk;simp only[Ag]at this;show this.symm
theorem CH.take(C:CH H x s y (A++(L++[(bx,bo)])) g)(ok:BoxO N bo)(hN:N<=10^6)(hm:1<=many/\many<=1000)(h:∀d H' bo',0<=d->d<many->BoxO (N+1) bo'->CH H' x s y (A++(L++[(bx,bo')])) g->K (.int d) H'):WC F.u ↑554 [↑bx,.int many] H K:=by
 apply Y;obtain⟨c,h1,sh⟩:=C;rw[Cv,<- aH]at h1;show Bg (BH.jn h1 ok) hN hm λd H' d0 d1 B=>?_;obtain⟨bo',h2,ok2⟩:=B.spl;show h d H' bo' d0 d1 ok2 {c,by rw[Cv,<- aH];show h2,sh}
def runD(s:DS)(i:Nat):List Deed->Nat×DS
 |[]=>(i,s)
 |d::ds=>bif (exec s d.rows).1 then (i,(exec s d.rows).2) else runD (exec s d.rows).2 (i+1) ds
theorem Gd{i:Nat}:runD s i (D::ds)=bif (exec s D.rows).1 then (i,(exec s D.rows).2) else runD (exec s D.rows).2 (i+1) ds:=rfl
inductive RuM(w:W)(D:List Deed)(x:CA)(y:DA)(za hB:Int->aK)(L:List (aK×AObj))(bx:aK)(N:Int)(m:Nat)(R:Nat×DS)(i:Nat)(H:AH)(s:DS):Prop
 |mk(b bend:Bk)(g:CG)(cm:Int->Int)(z:Int->JA)(u:aK)(bo:AObj)(fw:Fw w b (D.drop i) bend)(bi:BI w b (2*i))(sl:∀k,K2 k->Sl w b k)(rl:Rl w b.a8 s g)(C:CH H x s {y with u:=u} (J2 w b cm z x (L++[(bx,bo)])) g)(ok:BoxO (N+i) bo)
  (ez:∀k,K2 k->(z k).a=za k) (eB:∀k,K2 k->g.B (w.held k)=hB k) (di:DI s (m+12*(D.length-i))) (bl:s.blocks=w.blocks) (run:runD s i (D.drop i)=R)
theorem CH.only(C:CH H x s y (A++L) g):HL H (s.objs y++L):=by
 apply Y;obtain⟨c,h,sh⟩:=C;show h.only.sub (.append (.refl _) (bW ..))
end
section
variable{F:Fx}{H:AH}{K:V->AH->Prop}{w:W}{k i:Int}{m j:Nat}{s:DS}{D:List Deed}{d:Deed}{x:CA}{y:DA}{za hB:Int->aK}{L:List (aK×AObj)}{bx:aK}{N:Int}{R:Nat×DS}
def Jm(y:DA)(L:List (aK×AObj))(bx:aK)(N:Int)(s:DS)(H:AH):Prop:=∃u bo,HL H (s.objs {y with u:=u}++(L++[(bx,bo)]))/\BoxO N bo
theorem RuM.done(M:RuM w D x y za hB L bx N m R j H s)(hT:(633,.tab)∈F.cl/\(640,.tab)∈F.cl)(wo:WOk w)(hD:D.length<=22)(ed:D[j]?=some d)
  (hc:R=(j,R.2)->∀H',Jm y L bx (N+j) R.2 H'->F.KX 95 H')
  (hK:∀H' b' bend g' cm' z' u bo s',Fw w b' (D.drop (j+1)) bend->BI w b' (2*(j+1))->(∀k,K2 k->Sl w b' k)->Rl w b'.a8 s' g'->CH H' x s' {y with u:=u} (J2 w b' cm' z' x (L++[(bx,bo)])) g'->BoxO (N+j) bo->(∀k,K2 k->(z' k).a=za k)->(∀k,K2 k->g'.B (w.held k)=hB k)->DI s' (m+12*(D.length-(j+1)))->s'.blocks=w.blocks->runD s' (j+1) (D.drop (j+1))=R->s'.view=wrV s.view d.rows->(∀r∈d.rows,En w.blocks r)->Sees w s' g' (bj w b' cm' 0) (bj w b' cm' 1) d s'.view->Room g'->K (.str d.az) H') :
  WC F.u.u.u.u.u.u.u.u.u.u.u.u.u ↑645 [↑x.a,.ref (za d.k),d.val] H K:=by
 apply @WC Y _ _ _ _;obtain⟨b,bend,g,cm,z,u,bo,fw,bi,sl,rl,C,ok,ez,eB,di,bl,run⟩:=M;have hj:=(aI.mp ed).1;rw[Df ed]at fw run;generalize hD':D.drop (j+1)=D' at fw run hK;generalize hd':d::D'=E at fw
 cases fw with
 |nil=>rcases hd'
 |@cons _ _ _ k way n o hk hw hd h=>
 obtain⟨rfl,rfl⟩:=ib hd';have bk:=bi k hk;have J:Jok (bj w b cm k) s.blocks:=by rw[bl];show W4 wo hk bk (lin 0x9b6c4a1053f47048e842 326919 tt hD hj)
 have Rm:=rl.room wo λk hk=>(bi k hk).len;have sr:=((bi.av (way:=way) wo hk) k hk).sr.1;obtain⟨e1,e2,e3,e4⟩:=V8 hk hw sr hd;have ow:=(wo.own k hk).2;have gl:(grp g.V (bj w b cm k).start (bj w b cm k).nums).length<=12:=by
  rw[<- Hm,Hj];have:=J.len;have:=J.pl;show lin 0x616817b07b2b0b74b37236c48e849 359719 tt ‹_› this
 have C1:=C.cj (J2.pick hk);have ek:(Au w b k way n o).2.k=k:=Gp.2.2;have e12:m+12*(D.length-j)=m+12*(D.length-(j+1))+12:=congrArg (λx=>m+12*x) (sub1 hj);rw[ek,<- ez k hk];rw[e12]at di;have dr:∀{j' g' az rows},Out g (bj w b cm k) (Au w b k way n o).2.n (Au w b k way n o).2.o (Au w b k way n o).2.way j' g' az rows->Does w (Au w b k way n o).1 k cm (Au w b k way n o).2 s j' g' az rows:=λh=>Sy wo hk hw bi sl rl hd h;show Xm (b:=m+12*(D.length-(j+1))) (vs:=[.str (Au w b k way n o).2.az,D7 (Au w b k way n o).2.rows,.ae (Ax (Au w b k way n o).2.fresh),iL (Au w b k way n o).2.obs]) hT C1 (di.less (fC ‹_› _)) Rm J (λm hm=>by rw[rl.p1 k hk m hm];decide) e3 (λy=>?_) (λj' g' az rows O ex H' u' h=>?_) λj' g' az rows O ex H' u' z' B ez' hB' C'=>?_
 .obtain⟨h1,h2⟩:=e4 y;rw[e1,e2,bl];show{ow n h1,h2,wo.lg k k n hk hk h1}
 .have Q:=dr O;rw[Gd,<- Q.er,ex]at run;subst run;show hc rfl H' {u',bo,h.sub (.append (.refl _) (bW ..)),ok}
 .have Q:=dr O;have rk:∀r∈(Au w b k way n o).2.rows,En w.blocks r:=λr hr=>by
   rw[<- bl];show Om J (λf=>C1.len) r (O.sub.subset (by rw[Q.er];show hr))
  obtain⟨cv,ej⟩:=Q.ej;have lr:=O.sub.length_le;have et:=Q.et;have er:=Q.er;have rl2:=Q.rl ex;subst et;subst er;subst ej;rw[Gd,ex]at run;have di2:=DI.run (s:=s) (rs:=(Au w b k way n o).2.rows) (b:=m+12*(D.length-(j+1))) (di.less ?_) (by rw[bl];show rk) ex
  .have bi2:=bi.cu wo hk hd;obtain⟨f1,f2,f⟩:=Gp (w:=w) (b:=b) (k:=k) (way:=way) (n:=n) (o:=o);have rl3:Rl w (Au w b k way n o).1.a8 (exec s (Au w b k way n o).2.rows).2 {g' with B:=B}:={rl2.most,rl2.h,rl2.p1,rl2.p0,rl2.v,rl2.c};show hK H' (Au w b k way n o).1 bend {g' with B:=B} (upd cm k cv) (upd z k z') u' bo _ h bi2 (λi hi=>Sl.cu sl hk hi) rl3 (C'.cj (J2.turn hk (Qi hk.ne))) ok (λi hi=>?_) (λi hi=>?_) di2.1 (di2.2.trans bl) run (T2 rk bl ex) rk (Xp wo bi2 rl3 (di2.2.trans bl) f1 f2) (rl3.room wo λk hk=>(bi2 k hk).len)
   .by_cases e:i=k
    .subst e;rw[Ag,ez',ez i hi]
    .rw[Af e];show ez i hi
   .rw[<- eB i hi];show hB' _ λy=>by rw[rl.h,if_pos (by rcases hi with rfl|rfl;show .inl rfl;show .inr rfl)]at y;apply Y;rcases y
  .show lin 0x259b224834c99b9311d106439311d1044 9479 tt gl lr
end
section
variable{F:Fx}{H:AH}{K:V->AH->Prop}{w:W}{s:DS}{D:List Deed}{x:CA}{y:DA}{za hB:Int->aK}{L:List (aK×AObj)}{bx da:aK}{N:Int}{R:Nat×DS}{m:Nat}
inductive O0(x:CA)(s:DS)(y:DA)(L:List (aK×AObj))(w:W)(g0:CG)(sq:Sq):Nat->List V->AH->Prop
 |o0{G:AH}(e:sq=.vals none [.int (w.held 0),.int (w.held 1)])(C:CH G x s y L g0):O0 x s y L w g0 sq 0 [] G
 |o1{G:AH}{g1:CG}(e:sq=.vals none [.int (w.held 0),.int (w.held 1)])(h1:Got g0 (w.held 0) g1)(C:CH G x s y L g1):O0 x s y L w g0 sq 1 [.ref (g1.B (w.held 0))] G
 |o2{G:AH}{g1 g2:CG}(e:sq=.vals none [.int (w.held 0),.int (w.held 1)])(h1:Got g0 (w.held 0) g1)(h2:Got g1 (w.held 1) g2)(C:CH G x s y L g2):O0 x s y L w g0 sq 2 [.ref (g1.B (w.held 0)),.ref (g2.B (w.held 1))] G
inductive RuJ(w:W)(D:List Deed)(x:CA)(y:DA)(za hB:Int->aK)(L:List (aK×AObj))(bx da:aK)(N:Int)(m:Nat)(R:Nat×DS)(sq:Sq)(i:Nat)(sl:List (Option V))(H:AH):Prop
 |mk(s:DS)(u8 u9 u10:Option V)(hs:sl=[some ↑bx,some w.val,some ↑y.a,some ↑da,some ↑x.a,some (.list [.ref (za 0),.ref (za 1)]),some (.list [.ref (hB 0),.ref (hB 1)]),some (.list (ysL s.view)),u8,u9,u10])(e:sq=.enum (some da) (D.map Deed.val))(hi:i<=D.length)(M:RuM w D x y za hB L bx N m R i H s)
theorem RuM.tail{i:Nat}(M:RuM w D x y za hB L bx N m R i H s)(hL:(da,dObj D)∈L):H da=some (dObj D):=by
 apply Y;obtain⟨b,bend,g,cm,z,u,bo,fw,bi,sl,rl,C,ok,ez,eB,di,bl,run⟩:=M;show C.tail.at_ _ (aG _ (aG _ (aU _ hL)))
theorem RuM.k2(M:RuM w D x y za hB L bx N m R i H s)(ed:D[i]?=some d):K2 d.k:=by
 obtain⟨b,bend,g,cm,z,u,bo,fw,bi,sl,rl,C,ok,ez,eB,di,bl,run⟩:=M;rw[Df ed]at fw;generalize hd':d::D.drop (i+1)=E at fw
 induction fw using Fw.casesOn with
 |nil=>contradiction
 |@cons _ _ _ k way n o hk hw hd h=>
 obtain⟨e9,a⟩:=ib hd';rw[e9];rw[Gp.2.2];show hk
theorem RuM.bl(M:RuM w D x y za hB L bx N m R i H s):s.blocks=w.blocks:=by
 obtain⟨b,bend,g,cm,z,u,bo,fw,bi,sl,rl,C,ok,ez,eB,di,bl,run⟩:=M;show bl
def ruSt:St:=.raw (Ad [2,0,0] (A7 (tst 40))) (.set 7 (.call ↑619 ['H',(.sub 'J' 'f')]) (.ite (.cmp .NotEq 'K' (.sub 'J' 'e')) (.ret (.un .USub 'b')) .done (.ite (.and (.cmp .Gt (.sub 'J' 'b') 'a') (.not (.call ↑650 ['B','E','F','G','H','J',(.call ↑554 ['A',(.sub 'B' (.con (.str "blocks")))])]))) (.ret (.un .USub 'b')) .done .done)))
theorem V9(hL:(da,dObj D)∈L)(hT:(633,.tab)∈F.cl/\(640,.tab)∈F.cl)(wo:WOk w)(hD:D.length<=22)(hN:0<=N/\N<=10^5)(M0:RuM w D x y za hB L bx N m R 0 H s)(hK:∀H',Jm y L bx (N+22) R.2 H'->K (.int R.1) H')
  (hKN:∀sl H',gs sl 3=some ↑da->H' da=some (dObj D)->R.1=D.length->Jm y L bx (N+22) R.2 H'->KN sl H') :
  evS F.u.u.u.u.u.u.u.u.u.u.u.u.u.bd (A9 (tst 40)).names K (.raw (Ad [2] (A7 (tst 40))) .done) KN ([some ↑bx,some w.val,some ↑y.a,some ↑da,some ↑x.a,some (.list [.ref (za 0),.ref (za 1)]),some (.list [.ref (hB 0),.ref (hB 1)]),some (.list (ysL s.view))]) H:=by
 show(let K0:=_;let K5:=_;(?_:@evS K0 _ _ _ _ K5 _));have rle:∀{H' s N'},Jm y L bx N' s H'->N'<=N+22->Jm y L bx (N+22) s H':=λz hl=>by
  obtain⟨u,bo,h,a,b,c,h1,h2,h3⟩:=z;show{u,_,h,.mk a b c h1 h2 {h3.1,bH h3.2 hl}}
 show WS1.forT (is:=[8,9]) (st:=ruSt) (RuJ w D x y za hB L bx da N m R) rfl rfl (λq q=>rfl) rfl rfl ?_ (λsq i sl H' j=>?_) (λsq i sl H' v j e=>?_) λsq i sl H' j e=>?_
 .apply @WI _ _ _ _ Y;show WI.en (i:=13) (ex:=.loc 3) rfl (λa a=>rfl) ⋯ {some da,_,{rfl,M0.tail hL},.enum,[some ↑bx,some w.val,some ↑y.a,some ↑da,some ↑x.a,some (.list [.ref (za 0),.ref (za 1)]),some (.list [.ref (hB 0),.ref (hB 1)]),some (.list (ysL s.view)),none,none,none],⋯,s,none,none,none,rfl,rfl,bV _,M0}
 .obtain⟨s,u8,u9,u10,rfl,rfl,hi,M⟩:=j;show M.tail hL
 .apply @tupK _ _ Y;obtain⟨s,u8,u9,u10,rfl,rfl,hi,M⟩:=j;obtain⟨w',ew,rfl⟩:=bF.mp e;rw[bK,bF]at ew;obtain⟨d,ed,rfl⟩:=ew;have hi':=(aI.mp ed).1;show{rfl,?_};show WS1.try (λX H'=>X=95/\K (.int i) H') [("at",.local,some (.int i))] rfl rfl (λy ov h=>?_) ?_ λX H' k=>?_
  .apply @jU _ _ _ Y _;cases aP.mp h;show Ah (i:=8) ⋯
  .apply @WS _ _ Y _ _ _;show .cons (WS1.assign (λq q=>rfl) (λq=>rfl) (λq q=>rfl) (exE (ex:=.call ↑645 ['E',(.sub 'F' (.sub 'J' 'a')),'J']) Al ⋯ ?_));apply @ev _ _ _ _ _ _ Y;show G2.tup (w:=.int d.k) (dte tt) (dte tt) rfl (G2.two (f:=λk=>.ref (za k)) (M.k2 ed) .d ?_);show M.done (F:={F.bd with KX:=λX H'=>X=95/\K (.int i) H',keep:=[("at",.local,some (.int i))]}) hT wo hD ed (λe H' h=>{rfl,by rw[e]at hK;show hK H' (rle h (lin 0x136d89420b256d9654094a 9479 tt hD hi'))}) λH' b' bend g' cm' z' u bo s' fw bi sl rl C ok ez eB di bl run vw rk S Rm=>?_;show WG.name (k:=.local) (Bc (i:=10) rfl) (.inl rfl) (λk w h=>absurd (congrArg (·.1) (aP.mp h)) (show ¬ ce "told"="at" by decide)) (.nil {_,rfl,?_});have vl:s.view.length=w.blocks.toNat:=by rw[Dl,M.bl]
   have wb:=wo.bl;show G2.tup (w:=D7 d.rows) (dte tt) (dte tt) rfl (Qa (F:=F.u.u.u.u.u.u.u.u.u.u.u.u.bd) (o:=none) (vs:=s.view) .d (lin 0x5882f660ac28b6e2d049c04a 437575 tt vl wb (bD (bH '#' wb.1))) (λp hp=>by have:=(rk _ hp).1;show lin 0x5882f698ac2d994119eda04ac2d92 13264748937 tt vl this (fR _)) ?_);rw[<- vw];show G2.tup (w:=.str d.az) (dte tt) (dte tt) rfl (W2.neS ?_);rw[bne_self_eq_false];have nx:∀{H':AH}{bo:AObj},CH H' x s' {y with u:=u} (J2 w b' cm' z' x (L++[(bx,bo)])) g'->BoxO (N+(i+1:Nat)) bo->RuJ w D x y za hB L bx da N m R (.enum (some da) (D.map Deed.val)) (i+1) [some ↑bx,some w.val,some ↑y.a,some ↑da,some ↑x.a,some (.list [.ref (za 0),.ref (za 1)]),some (.list [.ref (hB 0),.ref (hB 1)]),some (.list (ysL s'.view)),some (.int i),some d.val,some (.str d.az)] H':=λ{H' bo}C ok=>{s',_,_,_,rfl,rfl,hi',⟨b',bend,g',cm',z',u,bo,fw,bi,sl,rl,C,ok,ez,eB,di,bl,run⟩};have okn:∀{bo},BoxO (N+i) bo->BoxO (N+(i+1:Nat)) bo:=λz=>by obtain⟨a,b,c,h1,h2,h3⟩:=z;show .mk a b c h1 h2 {h3.1,by show lin 0x3d92a04c5616cc952a13151 296 tt h3}
   show G2.tup (w:=.int d.way) (dte tt) (dte tt) rfl (bifD (λq=>?_) λq=>nx C (okn ok));have C2:CH H' x s' {y with u:=u} (((bj w b' cm' 0).objs (z' 0) x.a++(bj w b' cm' 1).objs (z' 1) x.a)++(L++[(bx,bo)])) g':=by rw[aH];show C
   show G2.aa (w:=.int w.blocks) .fro rfl (C2.take (F:=F.u.u.u.u.u.u.u.u.u.u.u.u.bd) ok (lin 0x136d89ec01547e9585b2841600ca3f654094a 370983 tt hD hN hi') {cO (cF ‹_›),bH (cL ‹_›) '#'} λn H2 bo2 n0 n1 ok2 C3=>?_);rw[<- ez 0 (.inl rfl),<- ez 1 (.inr rfl),<- eB 0 (.inl rfl),<- eB 1 (.inr rfl)];have nl:∀k,K2 k->(bj w b' cm' k).nums.length<=100:=λk hk=>by
    have h1:=(bi k hk).len;have h2:=wo.pl k hk;change(keys (b'.a8 k)).length<=100;rw[aA];show lin 0xc2d02f60f65616e9c049 10535 tt h1 h2
   show Xf (F:=F.u.u.u.u.u.bd) (j0:=bj w b' cm' 0) (j1:=bj w b' cm' 1) (z0:=z' 0) (z1:=z' 1) (l:=L++[(bx,bo2)]) C3 di Rm wo bl S {nl 0 (.inl rfl),nl 1 (.inr rfl)} ⟨n0,n1⟩ λH3 C4=>?_;rw[ez 0 (.inl rfl),ez 1 (.inr rfl),eB 0 (.inl rfl),eB 1 (.inr rfl)];show nx C4 (by rw[gr,<- fO];show ok2)
  .apply @HdR _ _ _ Y _ _ _;obtain⟨rfl,k⟩:=k;show .hit Sn (Ah (i:=15) ⋯) Ou Mq (.inr {_,_,_,rfl,.head _,Ah (i:=8) ⋯,k})
 .apply Y;obtain⟨s,u8,u9,u10,rfl,rfl,hi,M⟩:=j;have e':=aO.mp (ik.mp e);rw[aA]at e';obtain rfl:i=D.length:=cA hi e';show{_,rfl,?_};have td:=M.tail hL;obtain⟨b,bend,g,cm,z,u,bo,fw,bi,sl,rl,C,ok,ez,eB,di,bl,run⟩:=M;rw[List.drop_length]at run;subst run;show hKN _ _ rfl td rfl (rle {u,bo,?_,ok} (lin 0x26db0b256d96540949 263 tt hD));show CH.only (A:=(bj w b cm 0).objs (z 0) x.a++(bj w b cm 1).objs (z 1) x.a) (by rw[aH];show C)
variable{bend:Bk}
theorem run_ok(hL:(da,dObj D)∈L)(hT:(633,.tab)∈F.cl/\(640,.tab)∈F.cl)(wo:WOk w)(fw:Fw w bk0 D bend)(hD:D.length<=22)(hN:0<=N/\N<=10^5)(B:BH H bx N (s.objs y++L))(I:DI s (m+12*D.length))(e0:s.ah=[])(hb:s.blocks=w.blocks)
  (hK:∀H',Jm y L bx (N+22) (runD s 0 D).2 H'->K (.int (runD s 0 D).1) H'):WC F.u.u.u.u.u.u.u.u.u.u.u.u.u.u ↑655 [↑bx,w.val,↑y.a,↑da] H K:=by
 apply Y;obtain⟨bo,h,bok⟩:=B.spl;have rm:=wo.room;have p0:=wo.pl 0 (.inl rfl);have p1:=wo.pl 1 (.inr rfl);have wb:=wo.bl;have hv:∀k,K2 k->0<=w.held k/\w.held k<s.blocks:=λk hk=>by rw[hb];show(wo.own k hk).2 _ (wo.held k hk)
 have hne:w.held 1≠w.held 0:=λy=>wo.dis _ (wo.held 0 (.inl rfl)) (y▸wo.held 1 (.inr rfl));have at0:∀n,s.at_ n=Bo:=λn=>by unfold DS.at_;rw[e0];rfl
 have vw:ysL s.view=(bO w.blocks.toNat [.bytes Bo]).flatten:=by
  unfold ysL DS.view;rw[dB,hb];generalize w.blocks.toNat=n
  induction n with
  |zero=>rfl
  |succ n ih=>rw[dF,aJ,ih,List.replicate_succ',gd];show congrArg (_++[·]) (congrArg V.bytes (at0 _))
 show Aw 65 rfl rfl ?_;show(let K0:=_;let K5:=_;(?_:@evS K0 _ _ _ _ K5 _));show WS1.assign (λb b=>rfl) (λb=>rfl) (λb b=>rfl) (exE (ex:=.call ↑631 ['B','C']) Al rfl (Mo (F:=F.u.u.u.u.u.u.u.u.u.u.bd) h I.ok I.len hb wo λH1 x z0 z1 C=>WG.nms (is:=[4,5]) rfl rfl rfl rfl {_,rfl,?_}));apply @evS _ _ _ _ _ Y _;have R0:Room (CG.fresh s w.room):={[],λm h=>absurd rfl (h rfl),by change((0:Nat):Int)<w.room;show lin 0x1ecf958590f7231dec1ecec3ddec1eccc35da5a598 437543 tt rm p0 p1};show WS1.swp (is:=[6,7]) (ex:=.tup [.raw (B0 [0] (stE 0 (Ad [1] (A7 (tst 40))))),.bin .Mult (.list [.call (.type "bytes") ['q']]) (.sub 'B' (.con (.str "blocks")))]) rfl rfl ?_;apply @ev _ _ _ _ _ _ Y;show WE.co (WCo.n1 (j:=1) (ex:=.af 'C' "get" ['B']) (O0 x s y ((jnew w 0).objs z0 x.a++((jnew w 1).objs z1 x.a++(L++[(bx,bo)]))) w (CG.fresh s w.room)) tt rfl rfl rfl (λb b=>rfl) ?_ (λsq i xs H' j=>?_) (λsq i xs H' v j e=>?_) λsq i xs H' j e=>?_)
 .apply @WI _ _ _ _ Y;show WI.ex (ex:=.sub 'B' (.con (.str "held"))) rfl (G2.aa (w:=iL [w.held 0,w.held 1]) .fro rfl {none,_,.d,.vals,.o0 rfl C})
 .apply Y;induction j using O0.casesOn with
  |o0 e=>rcases e;show{trivial,bV _}
  |o1 e=>rcases e;show{trivial,(by decide:1<=2^20)}
  |o2 e=>rcases e;show{trivial,(by decide:2<=2^20)}
 .induction j using O0.casesOn with
  |o0 e1 C=>apply @ev _ _ _ _ _ _ Y;rcases e1;rcases e;show C.af (Ao 5 rfl) (λb=>rfl) (Mi (F:=F.u.u.u.u.u.u.u.bd.cm) C I.ok I.on (hv 0 (.inl rfl)) R0 λg1 H' G C=>.o1 rfl G C)
  |o1 e1 h1 C=>
   rcases e1;apply @ev _ _ _ _ _ _ Y;rcases e;show C.af (Ao 5 rfl) (λb=>rfl) (Mi (F:=F.u.u.u.u.u.u.u.bd.cm) C I.ok I.on (hv 1 (.inr rfl)) {[w.held 0],λm u=>eN λy=>?_,by rw[h1.most];change((1:Nat):Int)<w.room;show lin 0x1ecf958590f7231dec1ecec3ddec1eccc35da5a5d8 437543 tt rm p0 p1} λg1 H' G C=>.o2 rfl h1 G C);have ne:m≠w.held 0:=λe=>y (by rw[e];show .head _);show u (h1.h m ne) (h1.p m)
  |o2 e1 h1 h2 C=>rcases e1;contradiction
 .induction j using O0.casesOn with
  |o0 e1 C=>apply Y;subst e1;contradiction
  |o1 e1 h1 C=>apply Y;subst e1;contradiction
  |@o2 _ g1 g2 e1 h1 h2 C=>
   apply @evL _ _ _ Y;show WC.b9 (dte tt) (dte tt) {(by decide:1<=2^20),.data (G2.aa (w:=.int w.blocks) .fro rfl (W2.rep (nle tt) ?_ (by show{by show lin 0x3d982b0a2db4a5e85023f48 295 tt wb,by show lin 0xf660ac28b6d0a047e948 296 tt wb}) {(by decide:2<=2^20),rfl,_,rfl,?_}))}
   .change 1*w.blocks.toNat<=_;show lin 0x7b3056145b716814e828e849 11560 tt wb (bD (bH '#' wb.1))
   have u0:g1.used (w.held 0):=λy=>absurd (h1.hn.symm.trans y) (by change ¬ (0:Int)+1=0;decide);rw[<- h2.B _ u0,show V.list (bO w.blocks.toNat [.bytes (bO (16:Int).toNat 0)]).flatten=.list (ysL s.view) from congrArg V.list vw.symm];show V9 (x:=x) (y:=y) (za:=λk=>if k=0 then z0.a else z1.a) (hB:=λk=>g2.B (w.held k)) (R:=runD s 0 D) (m:=m) hL hT wo hD hN {bk0,bend,g2,λb=>0,λk=>if k=0 then z0 else z1,y.u,bo,fw,bi0 wo,λk b=>.inl ⟨rfl,rfl⟩,{h2.most.trans h1.most,λn=>?_,λk hk n hn=>(absurd hn aD),λn b=>(h2.p n).trans (h1.p n),λk hk q hq=>(absurd hq aD),λn b=>((h2.V n).trans (h1.V n)).symm},C,?_,λk b=>?_,λk b=>rfl,I,hb,rfl} hK λsl H' e3 ed eR r=>?_
   .by_cases e1:n=w.held 1
    .rw[e1,if_pos (.inr rfl),h2.hn,h1.h _ hne];rfl
    .rw[h2.h n e1];by_cases e0:n=w.held 0
     .rw[e0,if_pos (.inl rfl),h1.hn];rfl
     .rw[if_neg λy=>y.elim e0 e1,h1.h n e0];rfl
   .rw[dP,ci];show bok
   .change(if k=0 then z0 else z1).a=_;split<;>rfl
   .show Dr (F:=F.u.u.u.u.u.u.u.u.u.u.u.u.u.bd) (ns:=(A9 (tst 40)).names) (n:=58) e3 (WC.bg (o:=some da) (xs:=D.map Deed.val) ⟨rfl,ed⟩ (by rw[aA];show aC ‹_› (nle rfl)) ?_);rw[aA,<- eR];show hK H' r
variable{fl:Bool}{k0:List (Int×Oct)}
structure CuS(fl:Bool)(s:DS)(k0:List (Int×Oct))(c:Cu):Prop where
 n:0<=c.count
 e:bif fl then s.last=none/\s.ax=some (s.ag+c.count) else s.last=some (s.writes+c.count)/\s.ax=none
 k:s.kept=lay k0 c.sure
 u:s.ar=c.ak
theorem Bp{m a b:List (Int×Oct)}:lay m (a++b)=lay (lay m a) b:=by unfold lay;rw[fP]
theorem T3{rs:List Row}:∀{s:DS}{c:Cu},CuS fl s k0 c->(exec s rs).1=(An fl c rs).2/\(exec s rs).2.kept=lay k0 (An fl c rs).1.sure/\(exec s rs).2.ar=(An fl c rs).1.ak/\((exec s rs).1=false->CuS fl (exec s rs).2 k0 (An fl c rs).1):=by
 induction rs with
 |nil=>show λh=>{rfl,h.k,h.u,λb=>h}
 |cons r rs ih=>
  intro s c h;obtain⟨n,e,k,u⟩:=h;have out:s.out r=(r.isNone==fl&&c.count==0):=by
   have g:∀a:Int,gone (some (a+c.count)) a=(c.count==0):=λa=>by
    unfold gone;rw[j4,decide_eq_true_eq];show{by lia,by lia}
   clear ih;rcases r<;>rcases fl
   .change gone s.ax s.ag=_;rw[e.2];rfl
   .change gone s.ax s.ag=_;rw[e.2];show g _
   .change gone s.last s.writes=_;rw[e.1];show g _
   .change gone s.last s.writes=_;rw[e.1];rfl
  have go:∀{c2:Cu},0<=c2.count->c2.sure=c.sure->c2.ak=c.ak->(bif fl then (s.stp r).last=none/\(s.stp r).ax=some ((s.stp r).ag+c2.count) else (s.stp r).last=some ((s.stp r).writes+c2.count)/\(s.stp r).ax=none)->CuS fl (s.stp r) k0 (c2.step r):=λ{c2}n2 e1 e2 e3=>by
   clear ih
   induction r using Option.casesOn with
   |none=>show{n2,e3,by change lay s.kept s.ar=lay k0 (c2.sure++c2.ak);simp only[k,u,e1,e2,Bp],rfl}
   |some p=>show{n2,e3,by change s.kept=lay k0 c2.sure;simp only[k,e1],by change s.ar++[(p.1,p.2)]=c2.ak++[p];simp only[u,e2]}
  simp only[Bs,Bn,out]
  induction e1:r.isNone==fl using Bool.casesOn with
  |true=>
   induction e2:c.count==0 using Bool.casesOn with
   |true=>show{rfl,k,u,λh=>aR h}
   |false=>
    show ih (go (c2:={c with count:=c.count-1}) (by change 0<=c.count-1;lia) rfl rfl ?_);clear out go ih;apply @cond _ _ _ Y;rcases r<;>rcases fl<;>first|show ff e1|skip
    .show{e.1,e.2.trans (congrArg some (show s.ag+c.count=s.ag+1+(c.count-1) by show lin 0x3a5e354b23150 7175 ⋯))}
    .show{e.1.trans (congrArg some (show s.writes+c.count=s.writes+1+(c.count-1) by show lin 0x3a5e354b23150 7175 ⋯)),e.2}
  |false=>
   show ih (go n rfl rfl ?_);show(let K2:=_;let K3:=_;(?_:@cond _ _ K2 K3));clear out go ih;rcases r<;>rcases fl<;>first|show e|show ff e1|show ff e1.symm
theorem Qj:∀{c:Cu},An fl c (a++b)=bif (An fl c a).2 then An fl c a else An fl (An fl c a).1 b:=by
 induction a with
 |nil=>show rfl
 |cons r rs ih=>
  intro c;simp only[ku,Bn,Bn]
  cases r.isNone==fl with
  |true=>cases c.count==0 with
   |true=>rfl
   |false=>show ih
  |false=>show ih
theorem Xq:∀{D:List Deed}{s:DS}{c:Cu}{i:Nat},CuS fl s k0 c->(runD s i D).1=(Bm fl c i D).1/\(runD s i D).2.kept=lay k0 (Bm fl c i D).2.sure/\(runD s i D).2.ar=(Bm fl c i D).2.ak/\(Bm fl c i D).2=(An fl c (D.flatMap (·.rows))).1:=by
 intro l9
 induction l9 with
 |nil=>intro s c i h;show{rfl,h.k,h.u,rfl}
 |cons d D ih =>
  intro s c i h;obtain⟨h1,h2,h3,h4⟩:=T3 (rs:=d.rows) h;simp only[Gd,Eo,gv,Qj,h1];rw[h1]at h4
  induction e:(An fl c d.rows).2 using Bool.casesOn with
  |true=>show⟨rfl,h2,h3,rfl⟩
  |false=>show ih (i:=i+1) (h4 e)
def Az:List (List (Int×Oct))->List Row
 |[]=>[]
 |ws::S=>ws.map some++none::Az S
def Safe(P:List (Int×Oct)->Prop):List (Int×Oct)->List (List (Int×Oct))->Prop
 |came,[]=>P came
 |came,ws::S=>(∀sub,sub.Sublist ws->P (came++sub))/\Safe P (came++ws) S
theorem Kw{P:List (Int×Oct)->Prop}{c:Cu}(h1:∀sub,sub.Sublist c.ak->P (c.sure++sub))(e:∀{c2:Cu},c2.sure=c.sure->c2.ak=c.ak->∀sub,sub.Sublist (An fl (c2.step r) rs).1.ak->P ((An fl (c2.step r) rs).1.sure++sub))(sub:List (Int×Oct))(hs:sub.Sublist (An fl c (r::rs)).1.ak):P ((An fl c (r::rs)).1.sure++sub):=by
 rw[Bn]at hs ⊢;rcases e1:r.isNone==fl<;>rw[e1]at hs
 .show e (c2:=c) rfl rfl sub hs
 .rcases e2:c.count==0<;>rw[e2]at hs
  .show e (c2:={c with count:=c.count-1}) rfl rfl sub hs
  .show h1 sub hs
theorem Mr(b:∀{c:Cu},(∀sub,sub.Sublist c.ak->P (c.sure++sub))->Safe P (c.sure++c.ak) S->∀sub,sub.Sublist (An fl c (none::Az S)).1.ak->P ((An fl c (none::Az S)).1.sure++sub)){ws:List (Int×Oct)}:∀{c:Cu},(∀sub,sub.Sublist (c.ak++ws)->P (c.sure++sub))->Safe P (c.sure++(c.ak++ws)) S->∀sub,sub.Sublist (An fl c (ws.map some++none::Az S)).1.ak->P ((An fl c (ws.map some++none::Az S)).1.sure++sub):=by
 induction ws with
 |nil=>intro c h1 h2;rw[bG]at h1 h2;show b h1 h2
 |cons w ws ih=>
  intro c h1 h2;show Kw (λsub hs=>h1 sub (hs.trans (List.sublist_append_left ..))) λ{c2}e1 e2 sub hs=>?_;have el:c2.ak++[w]++ws=c.ak++(w::ws):=by rw[e2,aH];rfl
  show ih (c:=c2.step (some w)) (λsub hs=>by change P (c2.sure++sub);rw[e1];show h1 sub (el▸hs)) (by change Safe P (c2.sure++(c2.ak++[w]++ws)) S;rw[el,e1];show h2) sub hs
theorem Va:∀{ws:List (Int×Oct)}{c:Cu},(∀sub,sub.Sublist (c.ak++ws)->P (c.sure++sub))->Safe P (c.sure++(c.ak++ws)) S->∀sub,sub.Sublist (An fl c (ws.map some++none::Az S)).1.ak->P ((An fl c (ws.map some++none::Az S)).1.sure++sub):=by
 have es:∀{c c2:Cu},c2.sure=c.sure->c2.ak=c.ak->(c2.step none).sure=c.sure++c.ak:=λ{c c2}e1 e2=>by change c2.sure++c2.ak=_;rw[e1,e2]
 induction S with
 |nil=>show λ{ws c}=>Mr (λ{c}h1 h2=>Kw h1 λ{c2}e1 e2 sub hs=>by
   rw[List.sublist_nil.mp hs];change P ((c2.step none).sure++[]);rw[es e1 e2,bG];show h2)
 |cons ws S ih=>show λ{ws' c}=>Mr (λ{c}h1 h2=>Kw h1 λ{c2}e1 e2 sub hs=>ih (ws:=ws) (c:=c2.step none) (λsub hs=>by rw[es e1 e2];show h2.1 sub hs) (by rw[es e1 e2];show h2.2) sub hs)
end
section
noncomputable abbrev Mp:=List (Int×Oct)
variable{w:W}{k i n:Int}{m r sub came nt:Mp}{v:Oct}{ns:List Int}{due prev last:Int->Oct}{sts:Int->List Mp}{g:Nat}
theorem Ge:aq (lput m n o) i=if i=n then o else aq m i:=by
 unfold aq;rw[Et];split<;>rfl
theorem Bh:∀{r m:Mp},(∀p∈r,p.1≠n)->aq (lay m r) n=aq m n:=by
 intro l9
 induction l9 with
 |nil=>intro z1 z2;show rfl
 |cons p r ih=>intro m h;show(ih (m:=lput m p.1 p.2) λq hq=>h q (.tail _ hq)).trans (Ge.trans (if_neg (h p (.head _)).symm))
theorem T4:∀{r m:Mp},(∀p∈r,p.1=n->p.2=v)->aq m n=v->aq (lay m r) n=v:=by
 intro l9
 induction l9 with
 |nil=>intro z1 z2 h;show h
 |cons p r ih=>intro m h e;show ih (m:=lput m p.1 p.2) (λq hq=>h q (.tail _ hq)) (by
  rw[Ge];by_cases y:n=p.1
  .rw[if_pos y];show h p (.head _) y.symm
  .rw[if_neg y];show e)
theorem Ev{r:Mp}:∀{m:Mp},(∀p∈r,p.1=n->p.2=v)->(∃p∈r,p.1=n)->aq (lay m r) n=v:=by
 induction r with
 |nil=>show λ{m}h q=>q.elim λq hq=>absurd hq.1 aD
 |cons p r ih=>
  intro m h ⟨q,hq,e⟩;rcases bB (p.1=n) with y|y
  .show T4 (r:=r) (m:=lput m p.1 p.2) (λq hq=>h q (.tail _ hq)) (by rw[Ge,if_pos y.symm];show h p (.head _) y)
  .show ih (m:=lput m p.1 p.2) (λq hq=>h q (.tail _ hq)) {q,(aS.mp hq).resolve_left λy2=>y (y2▸e),e}
def Area(w:W)(k n:Int):Prop:=(w.st k<=n/\n<w.st k+(w.pl k+1))\/n∈w.own k
structure Rk(w:W)(k:Int)(m:Mp)(ns:List Int)(due:Int->Oct):Prop where
 e:aq m (w.st k)=Ca ns
 own:∀n∈ns,n∈w.own k
 nd:ns.Nodup
 len:(ns.length:Int)<=w.pl k
 lg:∀(j:Nat)n,ns[j]?=some n->aq m (w.st k+1+j)=due n
 ot:∀n∈w.own k,n∉ns->aq m n=due n
theorem Rk.skip(h:Rk w k m ns due)(wo:WOk w)(hk:K2 k)(hs:∀p∈sub,¬ Area w k p.1):Rk w k (lay m sub) ns due:=by
 have pl:=wo.pl k hk;show{?_,h.own,h.nd,h.len,λj n e=>?_,λn hn h2=>?_}
 .rw[Bh λp hp y=>hs p hp (.inl (by rw[y];show lin 0x7b07b330d77b655314ac2950 302089 tt pl))];show h.e
 .have:=h.len;have:=(aI.mp e).1;rw[Bh λp hp y=>hs p hp (.inl (by rw[y];show{by show lin 864634087753 225 tt,by show lin 0x30d4128416caa62ca81a952 9479 tt ‹_› this}))];show h.lg j n e
 .simp only[Bh λp hp y=>hs p hp (.inr (by simp only[y];show hn))];show h.ot n hn h2
def cnt(w:W)(k:Int)(came:Mp):Nat:=(came.filter λp=>p.1==w.st k&&p.2 !=Bo).length
theorem Kx:cnt w k (a++b)=cnt w k a+cnt w k b:=by unfold cnt;simp only[dJ,aV]
theorem Ky(h:∀p∈sub,p.1=w.st k->p.2=Bo):cnt w k sub=0:=by
 unfold cnt;rw[gz,List.filter_eq_nil_iff];intro p hp y;obtain⟨h1,h2⟩:=aT.mp y;show bne_iff_ne.mp h2 (h p hp (beq_iff_eq.mp h1))
def dueS(w:W)(sts:Int->List Mp)(k:Int)(came:Mp):Int->Oct:=aq ((sts k).getD (cnt w k came) [])
def Pk(w:W)(sts:Int->List Mp)(k:Int)(came:Mp):Prop:=cnt w k came<(sts k).length/\∃ns,Rk w k (lay [] came) ns (dueS w sts k came)
theorem Pk.skip(h:Pk w sts k came)(wo:WOk w)(hk:K2 k)(hs:∀p∈sub,¬ Area w k p.1):Pk w sts k (came++sub):=by
 apply Y;obtain⟨hl,ns,h⟩:=h;have pl:=wo.pl k hk;have ec:cnt w k (came++sub)=cnt w k came:=by
  simp only[Kx,Ky λp hp y=>absurd (.inl {by simp only[y];show bM _,by rw[y];show lin 0x7b07b330d76caa62950 295 tt pl}) (hs p hp)];rfl
 have e:dueS w sts k (came++sub)=dueS w sts k came:=by unfold dueS;rw[ec]
 show{ec▸hl,ns,?_};simp only[e,Bp];show h.skip wo hk hs
structure Grp(w:W)(k:Int)(nt:Mp)(prev last:Int->Oct):Prop where
 ow:∀n∈keys nt,n∈w.own k
 nd:(keys nt).Nodup
 len:((keys nt).length:Int)<=w.pl k
 ne:keys nt≠[]
 hit:∀n∈keys nt,last n=aq nt n
 miss:∀n,n∉keys nt->last n=prev n
structure Ph(w:W)(sts:Int->List Mp)(k:Int)(nt:Mp)(g:Nat)(came:Mp)(i:Nat):Prop where
 e:aq (lay [] came) (w.st k)=Ca (if i=2\/i=3 then keys nt else [])
 lg:1<=i->∀(j:Nat)n,(keys nt)[j]?=some n->aq (lay [] came) (w.st k+1+j)=aq ((sts k).getD (g+1) []) n
 o1:i<=1->∀n∈w.own k,aq (lay [] came) n=aq ((sts k).getD g []) n
 o2:2<=i->∀n∈w.own k,(i<=2->n∉keys nt)->aq (lay [] came) n=aq ((sts k).getD (g+1) []) n
 c:cnt w k came=if i<=1 then g else g+1
 gl:(if i<=1 then g else g+1)<(sts k).length
theorem Ph.keep{i:Nat}(h:Ph w sts k nt g came i)(wo:WOk w)(hk:K2 k)(hl:((keys nt).length:Int)<=w.pl k)(hs:∀p∈sub,p.1≠w.st k/\(1<=i->¬ (w.st k<=p.1/\p.1<w.st k+(w.pl k+1)))/\(p.1∈w.own k->i=2/\p.1∈keys nt)):Ph w sts k nt g (came++sub) i:=by
 show{?_,λh1 j n e=>?_,λh1 n hn=>?_,λh1 n hn h2=>?_,?_,h.gl}
 .simp only[Bp,Bh λp hp=>(hs p hp).1];show h.e
 .have:=(aI.mp e).1;rw[Bp,Bh λp hp y=>(hs p hp).2.1 h1 (by rw[y];show{by show lin 864634087753 225 tt,by show lin 0x30d4128416caa62ca81a952 9479 tt hl this})];show h.lg h1 j n e
 .simp only[Bp,Bh λp hp y=>by have:=((hs p hp).2.2 (by simp only[y];show hn)).1;show lin 21374648912961 295 tt h1 this];show h.o1 h1 n hn
 .rw[Bp,Bh λp hp y=>by have:=(hs p hp).2.2 (by simp only[y];show hn);show h2 (fK this.1) (y▸this.2)];show h.o2 h1 n hn h2
 .simp only[Kx,Ky λp hp y=>absurd y (hs p hp).1];show h.c
theorem Ph.skip{i:Nat}(h:Ph w sts k nt g came i)(wo:WOk w)(hk:K2 k)(hl:((keys nt).length:Int)<=w.pl k)(hs:∀p∈sub,¬ Area w k p.1):Ph w sts k nt g (came++sub) i:=
 h.keep wo hk hl λp hp=>{λy=>hs p hp (.inl (by have:=wo.pl k hk;rw[y];show{by show lin 797000 7 tt,by show lin 0x7b07b330d76caa62950 295 tt this})),λa y=>hs p hp (.inl y),λy=>absurd (.inr y) (hs p hp)}
theorem Ph.pk{i:Nat}(h:Ph w sts k nt g came i)(wo:WOk w)(hk:K2 k)(G:2<=i->Grp w k nt prev last)(hi:i<=4):Pk w sts k came:=by
 have pl:=wo.pl k hk;have hc:=h.c;show{by rw[hc];show h.gl,?_};by_cases hi1:i<=1
 .apply Y;rw[if_pos hi1]at hc;show{[],{by rw[h.e,if_neg (by lia)],λa h=>(nomatch h),.nil,by change(0:Int)<=_;lia,λa a h=>(absurd h.symm (aF _)),λn hn a=>?_}};rw[h.o1 hi1 n hn];unfold dueS;rw[hc]
 .rw[if_neg hi1]at hc;by_cases h4:i=4
  .clear G hi hi1;subst h4;show{[],{by rw[h.e,if_neg (by trivial)],λa h=>(nomatch h),.nil,by change(0:Int)<=_;lia,λa a h=>(fn h),λn hn a=>?_}};rw[h.o2 (by trivial) n hn λy=>absurd y (dte tt)];unfold dueS;rw[hc]
  .have G:=G (by lia);show{keys nt,{by rw[h.e,if_pos (by lia)],G.ow,G.nd,G.len,λj n e=>?_,λn hn h2=>?_}}
   .rw[h.lg (lin 1120385174977 263 tt hi1) j n e];unfold dueS;rw[hc]
   .rw[h.o2 (by lia) n hn λa=>h2];unfold dueS;rw[hc]
end
section
variable{w:W}{k n st:Int}{m r sub came nt ws:Mp}{v:Oct}{ns:List Int}{due prev last V':Int->Oct}{sts:Int->List Mp}{g i:Nat}{p:Int×Oct}
def lw(V':Int->Oct):Int->List Int->Mp
 |_,[]=>[]
 |st,n::r=>(st,V' n)::lw V' (st+1) r
theorem Xr:∀{ns:List Int}{st:Int},logR V' st ns=(lw V' st ns).map some++[none]:=by
 intro l9
 induction l9 with
 |nil=>intro z1;show rfl
 |cons x9 r ih=>intro z1;show congrArg (cW _) (ih)
theorem Xs:∀{ns:List Int}{st:Int},insR V' false st ns=(ns.map λn=>(n,V' n)).map some++[none]:=by
 intro l9
 induction l9 with
 |nil=>intro z1;show rfl
 |cons x9 r ih=>intro z1;show congrArg (cW _) (ih)
theorem Oz:∀{ns:List Int}{st:Int},p∈lw V' st ns↔∃(j:Nat)(n:Int),ns[j]?=some n/\p=(st+j,V' n)
 |[],_=>{λh=>(absurd h aD),λz9=>z9.elim λ_ y0=>y0.elim λ_ y1=>y1.elim λh _=>absurd h.symm (aF _)}
 |m::r,st=>by
  change p∈(st,V' m)::lw V' (st+1) r↔_;rw[aS,Oz];constructor
  .rintro(rfl|⟨j,n,e,rfl⟩)
   .show{0,m,rfl,by simp only[dP,ci]}
   .show{j+1,n,e,by simp only[gr,fO,j2 1]}
  .rintro⟨j,n,e,rfl⟩
   induction j using Nat.casesOn with
   |zero=>injection e with e;subst e;show .inl (by simp only[dP,ci])
   |succ j=>show .inr {j,n,e,by simp only[gr,fO,j2 1]}
def sws(V':Int->Oct)(st:Int)(ns:List Int):List Mp:=[lw V' (st+1) ns,[(st,Ca ns)],ns.map λn=>(n,V' n),[(st,Ca [])]]
theorem T5:∀{S:List Mp},Az S=(S.map λws=>ws.map some++[none]).flatten:=by
 intro l9
 induction l9 with
 |nil=>show rfl
 |cons ws S ih =>
  skip;simp only[fA,gZ,<- ih,aH];rfl
theorem P7:strd V' st ns=(sws V' st ns).map λws=>ws.map some++[none]:=by
 unfold strd;simp only[Xr,Xs];rfl
theorem Xu(hs:ns.length<=3)(h0:ns≠[]):Ca ns≠Bo:=λy=>by
 rcases len3 hs with rfl|⟨a,rfl⟩|⟨a,b,rfl⟩|⟨a,b,c,rfl⟩
 .show h0 rfl
 .show absurd (congrArg (·.getD 0 0) y) (show ¬ (1:UInt8)=0 by decide)
 .show absurd (congrArg (·.getD 0 0) y) (show ¬ (2:UInt8)=0 by decide)
 .show absurd (congrArg (·.getD 0 0) y) (show ¬ (3:UInt8)=0 by decide)
theorem T6{α:Type}{a:α}{l:List α}(h:l.Sublist [a]):l=[]\/l=[a]:=by
 cases h with
 |cons _ h=>apply Y;rcases h;show .inl rfl
 |cons_cons _ h=>rcases h;show .inr rfl
theorem Ph.step(h:Ph w sts k nt g came i)(wo:WOk w)(hk:K2 k)(G:Grp w k nt (aq ((sts k).getD g [])) (aq ((sts k).getD (g+1) [])))(hg:g+2<=(sts k).length)(e:(sws (aq nt) (w.st k) (keys nt))[i]?=some ws):(∀sub,sub.Sublist ws->Pk w sts k (came++sub))/\Ph w sts k nt g (came++ws) (i+1):=by
 have pl:=wo.pl k hk;have hl:=G.len;have nst:=λy=>wo.lg k k _ hk hk y {bM _,by show lin 0x7b07b330d76caa62950 295 tt pl};have one:∀{o:Oct},i<=4->Ph w sts k nt g (came++[(w.st k,o)]) (i+1)->i+1<=4->∀sub,sub.Sublist [(w.st k,o)]->Pk w sts k (came++sub):=λhi h2 hi2 sub hs=>by
  rcases T6 hs with rfl|rfl
  .simp only[bG];show h.pk wo hk (λa=>G) hi
  .show h2.pk wo hk (λa=>G) hi2
 have put:∀{o:Oct}{n:Int},n≠w.st k->aq (lay [] (came++[(w.st k,o)])) n=aq (lay [] came) n:=λhn=>by
  rw[Bp];show Bh λp hp=>by rw[aP.mp hp];show hn.symm
 have put0:∀{o:Oct},aq (lay [] (came++[(w.st k,o)])) (w.st k)=o:=by
  intro o;rw[Bp];show(Ge (m:=lay [] came)).trans (if_pos rfl)
 have hi:i<4:=(aI.mp e).1;obtain rfl|rfl|rfl|rfl:=lt4 hi
 .injection e with e;subst e;have lg:∀p∈lw (aq nt) (w.st k+1) (keys nt),∃(j:Nat)(n:Int),(keys nt)[j]?=some n/\p=(w.st k+1+j,aq nt n)/\j<(keys nt).length:=λp hp=>by
   apply Y;obtain⟨j,n,e,rfl⟩:=Oz.mp hp;show{j,n,e,rfl,(aI.mp e).1}
  have kp:∀{sub:Mp},(∀p∈sub,p∈lw (aq nt) (w.st k+1) (keys nt))->Ph w sts k nt g (came++sub) 0:=λhs=>h.keep wo hk hl λp hp=>by
   apply Y;obtain⟨j,n,a,rfl,hj⟩:=lg p (hs p hp);show{by change w.st k+1+j≠_;lia,λy=>absurd y (dte tt),λy=>absurd {by change w.st k<=w.st k+1+j;show lin 864634087753 225 tt,by change w.st k+1+j<_;show lin 0x30d4128416caa62ca81a952 9479 tt hl hj} (wo.lg k k _ hk hk y)}
  have h1:=kp (sub:=lw (aq nt) (w.st k+1) (keys nt)) λa h=>h;show{λsub hs=>(kp λp hp=>hs.subset hp).pk wo hk (λa=>G) (nle tt),h1.e,λa j n e=>?_,λa=>h1.o1 (nle tt),λy=>absurd y (dte tt),h1.c,h1.gl};rw[Bp];show(Ev (v:=aq nt n) (λp hp y=>?_) {_,Oz.mpr ⟨j,n,e,rfl⟩,rfl}).trans (G.hit n (aX e)).symm;obtain⟨j',n',e',rfl,a⟩:=lg p hp;obtain rfl:j'=j:=lin 0x74a82a96540d4ab104a 9699623 tt y;rw[e]at e';clear came sts g wo hk G hg pl hl nst put put0 h one hi lg kp h1 a hp e y;injection e' with e';subst e';rfl
 .injection e with e;subst e;have h2:Ph w sts k nt g (came++[(w.st k,Ca (keys nt))]) 2:=by
   apply @Ph _ _ _ _ _ Y _;show{put0,λa j n e=>?_,λy=>absurd y (dte tt),λa n hn hm=>?_,?_,hg}
   .rw[put (by lia)];show h.lg '#' j n e
   .rw[put λy=>nst (y▸hn),h.o1 '#' n hn];show(G.miss n (hm '#')).symm
   .rw[Kx,h.c];unfold cnt;rw[iQ (by simp only[beq_self_eq_true,bne_iff_ne.mpr (Xu (lin 0x1ec1ecac2dd85a0523d849 10536 tt pl hl) G.ne)];rfl)];rfl
  show{one (nle tt) h2 (nle tt),h2}
 .injection e with e;subst e;have kp:∀{sub:Mp},(∀p∈sub,p∈(keys nt).map λn=>(n,aq nt n))->Ph w sts k nt g (came++sub) 2:=λhs=>h.keep wo hk hl λp hp=>by
   obtain⟨n,hn,rfl⟩:=aE.mp (hs p hp);have ow:=G.ow n hn;show{λy=>nst (y▸ow),λa=>wo.lg k k n hk hk ow,λa=>⟨rfl,hn⟩}
  have h2:=kp (sub:=(keys nt).map λn=>(n,aq nt n)) λa h=>h;show{λsub hs=>(kp λp hp=>hs.subset hp).pk wo hk (λa=>G) (nle tt),h2.e,λa=>h2.lg (nle tt),λy=>absurd y (dte tt),λa n hn a=>?_,h2.c,h2.gl};rcases bB (n∈keys nt) with hm|hm
  .rw[Bp];show(Ev (v:=aq nt n) (λp hp y=>?_) {_,aE.mpr ⟨n,hm,rfl⟩,rfl}).trans (G.hit n hm).symm;obtain⟨n',a,rfl⟩:=aE.mp hp;show congrArg (aq nt) (y)
  .show h2.o2 '#' n hn λa=>hm
 .rcases e;have h2:Ph w sts k nt g (came++[(w.st k,Ca [])]) 4:=by
   show{put0,λa j n e=>?_,λy=>absurd y (dte tt),λa n hn a=>?_,?_,hg}
   .rw[put (by lia)];show h.lg (nle tt) j n e
   .rw[put λy=>nst (y▸hn)];show h.o2 (nle tt) n hn λy=>absurd y (dte tt)
   .rw[Kx,h.c,Ky λp hp a=>by rw[aP.mp hp];rfl];rfl
  show{one (nle tt) h2 (nle tt),h2}
end
section
variable{w:W}{b c bend:Bk}{k j n way:Int}{o:Oct}{m sub came nt ws:Mp}{sts:Int->List Mp}{g i t:Nat}{D:List Deed}{S S1 S2:List Mp}
theorem Im(wo:WOk w)(hk:K2 k)(hj:K2 j)(ne:j≠k)(h:Area w k n):¬ Area w j n:=λh2=>by
 have e:j=1-k:=by clear h h2;rcases hk with rfl|rfl<;>rcases hj with rfl|rfl<;>first|show absurd rfl ne|rfl
 subst e;rcases h with h|h
 .rcases h2 with h2|h2
  .show sepk wo hk h h2
  .show wo.lg (1-k) k n hj hk h2 h
 .rcases h2 with h2|h2
  .show wo.lg k (1-k) n hk hj h h2
  .clear hj ne;rcases hk with rfl|rfl
   .show wo.dis n h h2
   .show wo.dis n h2 h
theorem Kz(wo:WOk w)(hk:K2 k)(ow:∀n∈ns,n∈w.own k)(hl:(ns.length:Int)<=w.pl k)(e:(sws V' (w.st k) ns)[i]?=some ws):∀p∈ws,Area w k p.1:=λp hp=>by
 have st:Area w k (w.st k):=.inl {bM _,by show lin 0x61a816caa62951 8417 tt hl};have hi:i<4:=(aI.mp e).1;obtain rfl|rfl|rfl|rfl:=lt4 hi
 .injection e with e;subst e;obtain⟨j,n,e,e9⟩:=Oz.mp hp;rw[e9];have:=(aI.mp e).1;show .inl {by change w.st k<=w.st k+1+j;show lin 864634087753 225 tt,by change w.st k+1+(j:Int)<_;show lin 0x30d4128416caa62ca81a952 9479 tt hl this}
 .injection e with e;subst e;rw[aP.mp hp];show st
 .injection e with e;subst e;obtain⟨n,hn,e9⟩:=aE.mp hp;rw[<- e9];show .inr (ow n hn)
 .injection e with e;subst e;rw[aP.mp hp];show st
def Iv(w:W)(sts:Int->List Mp)(b:Bk)(k:Int)(came:Mp):Prop:=∃g i nt,Ph w sts k nt g came i/\((keys nt).length:Int)<=w.pl k/\((b.av k=false/\b.strides k=[]/\i=0/\g+1=(b.a9 k).length) \/
 (b.av k=true/\nt=b.a8 k/\i<=4/\b.strides k=(strd (aq nt) (w.st k) (keys nt)).drop i/\g+2=(b.a9 k).length/\Grp w k nt (aq ((sts k).getD g [])) (aq ((sts k).getD (g+1) []))/\g+2<=(sts k).length))
theorem Iv.pk(h:Iv w sts b k came)(wo:WOk w)(hk:K2 k):Pk w sts k came:=by
 apply Y;obtain⟨g,i,nt,h,hl,h2⟩:=h;rcases h2 with⟨a,a,rfl,a⟩|⟨a,a,hi,a,a,G,a⟩
 .show h.pk (prev:=λa=>[]) (last:=λa=>[]) wo hk (λy=>absurd y (dte tt)) (nle tt)
 .show h.pk wo hk (λa=>G) hi
theorem Iv.skip(h:Iv w sts b k came)(wo:WOk w)(hk:K2 k)(hs:∀p∈sub,¬ Area w k p.1):Iv w sts b k (came++sub):=(h).elim λg y0=>y0.elim λi y1=>y1.elim λnt y2=>y2.elim λh y3=>y3.elim λhl h2=>{g,i,nt,h.skip wo hk hl hs,hl,h2}
theorem Iv.same(h:Iv w sts b k came)(e1:c.av k=b.av k)(e2:c.strides k=b.strides k)(e3:c.a9 k=b.a9 k)(e4:b.av k=true->c.a8 k=b.a8 k):Iv w sts c k came:=by
 apply Y;obtain⟨g,i,nt,h,hl,h2⟩:=h;show{g,i,nt,h,hl,h2.imp (λh=>{e1.trans h.1,e2.trans h.2.1,h.2.2.1,by rw[e3];show h.2.2.2}) λh=>{e1.trans h.1,h.2.1.trans (e4 h.1).symm,h.2.2.1,e2.trans h.2.2.2.1,by rw[e3];show h.2.2.2.2.1,h.2.2.2.2.2}}
noncomputable abbrev PA (w:W) (sts:Int->List Mp) (came:Mp):Prop:=∀k,K2 k->Pk w sts k came
theorem Safe.app:∀{S1:List Mp}{came:Mp},Safe P came S1->Safe P (came++S1.flatten) S2->Safe P came (S1++S2):=by
 intro l9
 induction l9 with
 |nil=>intro came z1 h2;simp only[jI,bG]at h2;show h2
 |cons ws S1 ih=>intro came h1 h2;show{h1.1,ih h1.2 (by rw[aH];show h2)}
theorem Jn:∀{S1:List Mp},Az (S1++S2)=Az S1++Az S2:=by
 intro l9
 induction l9 with
 |nil=>show rfl
 |cons ws S1 ih=>change ws.map some++none::Az (S1++S2)=(ws.map some++none::Az S1)++Az S2;simp only[ih,aH];rfl
theorem Ep(wo:WOk w)(hk:K2 k)(h:Ph w sts k nt g came i)(G:Grp w k nt (aq ((sts k).getD g [])) (aq ((sts k).getD (g+1) [])))(hg:g+2<=(sts k).length)(ho:Pk w sts (1-k) came)(e:(sws (aq nt) (w.st k) (keys nt))[i]?=some ws):(∀sub,sub.Sublist ws->PA w sts (came++sub))/\Ph w sts k nt g (came++ws) (i+1)/\Pk w sts (1-k) (came++ws):=by
 obtain⟨h1,h2⟩:=h.step wo hk G hg e;have o:∀sub:Mp,sub.Sublist ws->Pk w sts (1-k) (came++sub):=λsub hs=>ho.skip wo hk.flip λp hp=>Im wo hk hk.flip hk.ne ((Kz wo hk G.ow G.len e) p (hs.subset hp));show{λsub hs j hj=>?_,h2,o ws (.refl _)};by_cases ej:j=k
 .show ej▸h1 sub hs
 .have:j=1-k:=by clear wo h G hg ho e h1 h2 o sub hs;rcases hk with rfl|rfl<;>rcases hj with rfl|rfl<;>first|show absurd rfl ej|rfl
  clear wo hk h G hg ho e h1 h2 hj ej;subst this;show o sub hs
theorem Vb(wo:WOk w)(hk:K2 k)(h:Ph w sts k nt g came 0)(G:Grp w k nt (aq ((sts k).getD g [])) (aq ((sts k).getD (g+1) [])))(hg:g+2<=(sts k).length)(ho:Pk w sts (1-k) came):Safe (PA w sts) came (sws (aq nt) (w.st k) (keys nt))/\Ph w sts k nt g (came++(sws (aq nt) (w.st k) (keys nt)).flatten) 4:=by
 obtain⟨a1,a2,a3⟩:=Ep wo hk h G hg ho (i:=0) rfl;obtain⟨b1,b2,b3⟩:=Ep wo hk a2 G hg a3 (i:=1) rfl;obtain⟨c1,c2,c3⟩:=Ep wo hk b2 G hg b3 (i:=2) rfl;obtain⟨d1,d2,d3⟩:=Ep wo hk c2 G hg c3 (i:=3) rfl;show{{a1,b1,c1,d1,d1 _ (.refl _)},?_};change Ph w sts k nt g (came++(_++(_++(_++(_++[]))))) 4;rw[<- aH,<- aH,<- aH];show d2
theorem P8(nd:(keys a).Nodup):aq (mrg a nt) n=aq (lay a nt) n:=by
 unfold mrg;rw[Bp,W3 (m:=[]) (l:=a) nd];rfl
theorem Ms{l r:List Mp}(e:g+1=l.length):(l++r).getD g []=l.getLast?.getD []:=by
 rw[dI,List.getElem?_append_left (fK ‹_›),lI,<- e];rfl
theorem T7(wo:WOk w)(hk:K2 k)(bi:BIk w b k t)(hne:b.a8 k≠[])(eg:g+1=(b.a9 k).length)(hst:sts k=(b.a9 k++[mrg ((b.a9 k).getLast?.getD []) (b.a8 k)])++r):Grp w k (b.a8 k) (aq ((sts k).getD g [])) (aq ((sts k).getD (g+1) [])):=by
 have e1:(sts k).getD g []=(b.a9 k).getLast?.getD []:=by rw[hst,aH];show Ms eg
 have e2:(sts k).getD (g+1) []=mrg ((b.a9 k).getLast?.getD []) (b.a8 k):=by
  rw[hst,Ms (by simp only[aV];show congrArg (·+1) eg),List.getLast?_append];rfl
 simp only[e1,e2];show{λn hn=>?_,bi.nd,((aA .. : (keys (b.a8 k)).length=(b.a8 k).length)▸bi.len),λy=>hne (eZ.mp y),λn hn=>?_,λn hn=>?_}
 .obtain⟨q,hq,e9⟩:=aE.mp hn;show e9▸(bi.ow q hq).1
 .rw[P8 (bi.last.nd)];show Ev (λp hp y=>?_) (aE.mp hn);show y▸(Oy (nt:=b.a8) bi.nd hp).symm
 .rw[P8 (bi.last.nd)];show Bh λp hp y=>hn (y▸bZ hp)
variable{nt':Mp}
theorem Ph.re(h:Ph w sts k nt g came 0):Ph w sts k nt' g came 0:={h.e,λy=>absurd y (dte tt),h.o1,λy=>absurd y (dte tt),h.c,h.gl}
theorem Ph.fin(h:Ph w sts k nt g came 4):Ph w sts k [] (g+1) came 0:={h.e,λy=>absurd y (dte tt),λa n hn=>h.o2 (nle tt) n hn λy=>absurd y (dte tt),λy=>absurd y (dte tt),h.c,h.gl}
inductive DueE(w:W)(c:Bk)(k:Int):Bk×bY×List Row->Prop
 |no(c':Bk)(az:bY)(e1:c'.av=c.av)(e2:c'.strides=c.strides)(e3:c'.a9=c.a9)(e4:∀j,j≠k->c'.a8 j=c.a8 j):DueE w c k (c',az,[])
 |all(c':Bk)(az:bY)(e1:c'.av=c.av)(e2:c'.strides=c.strides)(e3:c'.a9=upd c.a9 k (c.a9 k++[mrg ((c.a9 k).getLast?.getD []) (c.a8 k)]))(e4:∀j,j≠k->c'.a8 j=c.a8 j)(hne:c.a8 k≠[]):DueE w c k (c',az,(strd (aq (c.a8 k)) (w.st k) (keys (c.a8 k))).flatten)
theorem Xv:DueE w c k (dueB w c k way n o):=by
 unfold dueB
 cases way==0
 .cases c.calls k==0
  .cases way==1
   .cases e:decide (0<c.calls k-1)||(c.a8 k).isEmpty
    .show .all _ _ rfl rfl rfl (λj h=>Af h) λy=>by rw[y,pZ]at e;show aR e
    .show .no _ _ rfl rfl rfl λj h=>rfl
   .cases !(lget (c.a8 k) n).isSome&&(((c.a8 k).length:Int)==w.pl k)
    .show .no _ _ rfl rfl rfl λj h=>Af h
    .show .no _ _ rfl rfl rfl λj h=>rfl
  .show .no _ _ rfl rfl rfl λj h=>rfl
 .cases decide (w.pl k<((c.a8 k).length:Int)+(c.calls k+1)*w.each k)<;>show .no _ _ rfl rfl rfl λj h=>rfl
theorem T8{f:Int->List Mp}{x:Mp}:∃r,upd f k (f k++[x]) j=f j++r:=by
 by_cases e:j=k
 .subst e;show⟨_,Ag⟩
 .show{[],(Af e).trans (bG _).symm}
theorem Jo:Bj w b k way=b\/(b.a8 k≠[]/\b.av k=false/\(Bj w b k way).av=upd b.av k true/\(Bj w b k way).strides=upd b.strides k (strd (aq (b.a8 k)) (w.st k) (keys (b.a8 k)))/\(Bj w b k way).a9=upd b.a9 k (b.a9 k++[mrg ((b.a9 k).getLast?.getD []) (b.a8 k)])):=by
 apply Y;induction e:way==3&&(!(b.a8 k).isEmpty&&!b.av k) using Bool.casesOn with
 |false=>show .inl (by unfold Bj;rw[e];rfl)
 |true=>
  obtain⟨_,e'⟩:=aT.mp e;obtain⟨e1,e2⟩:=aT.mp e';show .inr {λy=>?_,(gq _).mp e2,?_}
  .rw[y]at e1;show aR e1
  unfold Bj;show e.symm▸⟨rfl,rfl,rfl⟩
theorem Mt:∃r,(Hb w c k way n o).1.a9 j=c.a9 j++r:=by
 unfold Hb
 cases way==3||c.av k with
 |true=>show{[],(bG _).symm}
 |false=>
  change ∃r,(dueB w c k way n o).1.a9 j=c.a9 j++r;generalize e:dueB w c k way n o=q;have:=e▸Xv (w:=w) (c:=c) (k:=k) (way:=way) (n:=n) (o:=o);clear e;induction this using DueE.casesOn with
  |no c' az e1 e2 e3 e4=>show{[],by simp only[e3,bG]}
  |all c' az e1 e2 e3 e4=>show e3▸T8
theorem Vc:∃r,(Au w b k way n o).1.a9 j=b.a9 j++r:=by
 apply Y;obtain⟨r,e⟩:=Mt (w:=w) (c:=Bj w b k way) (k:=k) (way:=way) (n:=n) (o:=o) (j:=j);show Jo (w:=w) (b:=b) (k:=k) (way:=way) |>.elim (λh=>{r,by unfold Au;rw[e,h]}) λh=>?_;obtain⟨r',e'⟩:=T8 (f:=b.a9) (k:=k) (j:=j) (x:=mrg ((b.a9 k).getLast?.getD []) (b.a8 k));show{r'++r,by unfold Au;simp only[e,h.2.2.2.2,e',aH]}
theorem Xw(wo:WOk w)(hk:K2 k)(bi:BI w b t)(hj:K2 j)(h:∀j,K2 j->Iv w sts b j came)(hst:∃r,sts k=(Bj w b k way).a9 k++r):Iv w sts (Bj w b k way) j came:=by
 rcases Jo (w:=w) (b:=b) (k:=k) (way:=way) with e|⟨hne,hs,e1,e2,e3⟩
 .rw[e];show h j hj
 .by_cases ej:j=k
  .subst ej;apply Y;obtain⟨g,i,nt,p,hl,h2⟩:=h j hk;rcases h2 with⟨a,a,rfl,eg⟩|⟨y,a⟩
   .obtain⟨r,er⟩:=hst;simp only[e3,Ag]at er;show{g,0,b.a8 j,p.re,by rw[aA];show(bi j hk).len,.inr {by rw[e1,Ag],Cz.1▸rfl,nle tt,by simp only[e2,Ag];rfl,by simp only[e3,Ag,aV];change g+2=_+1;show lin 0xb1542ba8a42d842 9699623 tt eg,T7 wo hk (bi j hk) hne eg er,by simp only[er,aV];change g+2<=_+1+_;show lin 0x2c550a643a8a42d843 9443 tt eg}}
   .rw[hs]at y;show aR y
  .show(h j hj).same (by rw[e1,Af ej]) (by rw[e2,Af ej]) (by rw[e3,Af ej]) λa=>by show eG Cz.1▸rfl
theorem Xx(wo:WOk w)(hk:K2 k)(bi:BI w b t)(h:∀j,K2 j->Iv w sts b j came)(hst:∀j,K2 j->∃r,sts j=(Au w b k way n o).1.a9 j++r):∃S,(Au w b k way n o).2.rows=Az S/\(PA w sts came->Safe (PA w sts) came S)/\∀j,K2 j->Iv w sts (Au w b k way n o).1 j (came++S.flatten):=by
 have bi2:=bi.av (way:=way) wo hk;have h2:∀j,K2 j->Iv w sts (Bj w b k way) j came:=λj hj=>Xw wo hk bi hj h (by
  apply Y;obtain⟨r,e⟩:=hst k hk;obtain⟨r',e'⟩:=Mt (w:=w) (c:=Bj w b k way) (k:=k) (way:=way) (n:=n) (o:=o) (j:=k);show{r'++r,by rw[e];unfold Au;rw[e',aH]})
 unfold Au Hb at hst ⊢;generalize Bj w b k way=c at bi2 h2 hst ⊢;have nil:∀{c':Bk},(∀j,K2 j->Iv w sts c' j came)->∃S,([]:List Row)=Az S/\(PA w sts came->Safe (PA w sts) came S)/\∀j,K2 j->Iv w sts c' j (came++S.flatten):=λh=>{[],rfl,λp=>p,λj hj=>by simp only[jI,bG];show h j hj};obtain⟨g,i,nt,p,hl,q⟩:=h2 k hk
 induction e:way==3||c.av k using Bool.casesOn with
 |true=>
  have ot:∀j,K2 j->j≠k->Iv w sts (Ga w c k n o).1 j came:=λj hj ne=>(h2 j hj).same rfl (Af ne) rfl λf=>rfl;have es:(Ga w c k n o).1.strides k=(c.strides k).drop 1:=Ag;change ∃S,((c.strides k).take 1).flatten=Az S/\_/\∀j,K2 j->Iv w sts (Ga w c k n o).1 j (came++S.flatten);rcases q with⟨q1,q2,rfl,q4⟩|⟨q1,q2,q3,q4,q5,G,hg⟩
  .show eG q2▸?_;show nil λj hj=>?_;rcases bB (j=k) with ej|ej
   .clear wo hk bi h bi2 h2 hst nil e ot hj;rw[ej];show{g,0,nt,p,hl,.inl {q1,by simp only[es,q2];rfl,rfl,q4}}
   .show ot j hj ej
  .rcases bB (i=4) with h4|h4
   .subst h4;show eG q4▸?_;show nil λj hj=>?_;rcases bB (j=k) with ej|ej
    .clear wo hk bi h bi2 h2 hst nil e ot hj;rw[ej];show{g,4,nt,p,hl,.inr {q1,q2,q3,by simp only[es,q4];rfl,q5,G,hg}}
    .show ot j hj ej
   .obtain⟨ws,ew,er,ed⟩:∃ws,(sws (aq nt) (w.st k) (keys nt))[i]?=some ws/\((c.strides k).take 1).flatten=ws.map some++[none]/\(c.strides k).drop 1=(strd (aq nt) (w.st k) (keys nt)).drop (i+1):=by
     (show eG q4▸?_;show eG P7▸?_)
     clear wo hk bi h bi2 h2 hst nil p hl e ot es q1 q2 q5 G;clear q4;obtain rfl|rfl|rfl|rfl:i=0\/i=1\/i=2\/i=3:=by lia
     .show{_,rfl,bG _,rfl}
     .show{_,rfl,bG _,rfl}
     .show{_,rfl,bG _,rfl}
     .show{_,rfl,bG _,rfl}
    clear q4;obtain⟨s1,s2,f⟩:=Ep wo hk p G hg ((h2 (1-k) hk.flip).pk wo hk.flip) ew;show{[ws],er,λf=>{s1,s1 ws (.refl _)},λj hj=>?_};rw[show[ws].flatten=ws from bG _];by_cases ej:j=k
    .clear wo hk bi h bi2 h2 hst nil p e ot ew er s1 f hj;rw[ej];show{g,i+1,nt,s2,hl,.inr {q1,q2,by lia,by simp only[es,ed],q5,G,hg}}
    .show(ot j hj ej).skip wo hj λp hp=>Im wo hk hj ej (Kz wo hk G.ow G.len ew p hp)
 |false=>
  rw[e]at hst;obtain⟨_,e2⟩:=gG.mp e;change ∃S,(dueB w c k way n o).2.2=Az S/\_/\∀j,K2 j->Iv w sts (dueB w c k way n o).1 j (came++S.flatten);have hst:∀j,K2 j->∃r,sts j=(dueB w c k way n o).1.a9 j++r:=hst;generalize ed:dueB w c k way n o=d at hst ⊢;have D:=ed▸Xv (w:=w) (c:=c) (k:=k) (way:=way) (n:=n) (o:=o)
  induction D using DueE.casesOn with
  |no c' az e1 e2' e3 e4=>
   show nil λj hj=>(h2 j hj).same (by rw[e1]) (by rw[e2']) (by rw[e3]) λy=>e4 j λej=>?_;rw[ej,e2]at y;show aR y
  |all c' az e1 e2' e3 e4 hne=>
   rcases q with⟨q1,q2,rfl,q4⟩|⟨q1,f⟩
   .obtain⟨r,er⟩:=hst k hk;rw[e3,Ag]at er;have G:=T7 wo hk (bi2 k hk) hne q4 er;obtain⟨s1,s2⟩:=Vb wo hk (p.re (nt':=c.a8 k)) G (by simp only[er,aV,<- q4];show gY _ _) ((h2 (1-k) hk.flip).pk wo hk.flip);show{_,by (rw[P7];show T5▸rfl),λf=>s1,λj hj=>?_};by_cases ej:j=k
    .clear bi h bi2 h2 nil nt hl e e4 hne ed hst q1 p r er G s1 hj;clear hst;subst ej;show{g+1,0,[],s2.fin,by have:=wo.pl j hk;show cO (cF ‹_›),.inl {by rw[e1];show e2,by rw[e2'];show q2,rfl,by simp only[e3,Ag,aV,<- q4];rfl}}
    .show((h2 j hj).same (by rw[e1]) (by rw[e2']) (by rw[e3,Af ej]) λf=>e4 j ej).skip wo hj λp hp=>?_;obtain⟨ws,hw,hp⟩:=List.mem_flatten.mp hp;obtain⟨i,ei⟩:=mV hw;show Im wo hk hj ej (Kz wo hk G.ow G.len ei p hp)
   .have q1:=e2▸q1;show aR q1
end
section
variable{w:W}{b c bend:Bk}{k j n f:Int}{m sub came ws:Mp}{sts:Int->List Mp}{i t:Nat}{D:List Deed}{S:List Mp}{s:DS}{ns:Int->List Int}{due:Int->Int->Oct}{fl:Bool}
theorem Fw.pre(h:Fw w b D c):∃r,c.a9 j=b.a9 j++r:=by
 induction h with
 |nil=>show{[],(bG _).symm}
 |@cons b _ _ k way n o hk hw hd _ ih=>
  apply Y;obtain⟨r,e⟩:=ih;obtain⟨r',e'⟩:=Vc (w:=w) (b:=b) (k:=k) (way:=way) (n:=n) (o:=o) (j:=j);show{r'++r,by simp only[e,e',aH]}
theorem Xy(wo:WOk w)(h:Fw w b D bend):∀{came:Mp}{t:Nat},BI w b t->(∀j,K2 j->Iv w bend.a9 b j came)->∃S,D.flatMap (·.rows)=Az S/\Safe (PA w bend.a9) came S:=by
 induction h with
 |nil=>show λa hi=>{[],rfl,λk hk=>(hi k hk).pk wo hk}
 |cons hk hw hd h ih=>
  intro came t bi hi;apply Y;obtain⟨S1,e1,s1,i1⟩:=Xx wo hk bi hi λj hj=>h.pre;obtain⟨S2,e2,s2⟩:=ih (bi.cu wo hk hd) i1;show{S1++S2,by simp only[gv,e1,e2,Jn],(s1 λk hk=>(hi k hk).pk wo hk).app s2}
theorem P9(h:Safe P [] S):∀sub,sub.Sublist (An fl {x,[],[]} (Az S)).1.ak->P ((An fl {x,[],[]} (Az S)).1.sure++sub):=by
 induction S with
 |nil=>intro sub hs;rcases hs;show h
 |cons ws S=>show Va (c:={x,[],[]}) (λsub hs=>h.1 sub hs) h.2
theorem Vd(wo:WOk w)(h:Fw w bk0 D bend)(e:(Bm fl {x,[],[]} 0 D).2=(An fl {x,[],[]} (D.flatMap (·.rows))).1):∀sub,sub.Sublist (Bm fl {x,[],[]} 0 D).2.ak->PA w bend.a9 ((Bm fl {x,[],[]} 0 D).2.sure++sub):=by
 obtain⟨S,eS,hS⟩:=Xy (came:=[]) wo h (bi0 wo) λj hj=>by
  obtain⟨r,er⟩:=h.pre (j:=j);show{0,0,[],{rfl,λy=>absurd y (dte tt),λa n a=>by rw[er];rfl,λy=>absurd y (dte tt),rfl,by rw[er];show my _},by have:=wo.pl j hj;show cO (cF ‹_›),.inl ⟨rfl,rfl,rfl,rfl⟩}
 rw[e,eS];show P9 hS
structure RB(w:W)(m:Mp)(due:Int->Int->Oct)(ns:Int->List Int)(came:Mp):Prop where
 k:∀k,K2 k->Rk w k (lay m came) (ns k) (due k)
 o:∀n,(∀k,K2 k->n≠w.st k/\n∉w.own k)->aq (lay m came) n=aq m n
def iw(V':Int->Oct):Int->List Int->Mp
 |_,[]=>[]
 |st,n::r=>(n,V' st)::iw V' (st+1) r
theorem Xz:∀{ns:List Int}{st:Int},insR V' true st ns=(iw V' st ns).map some++[none]:=by
 intro l9
 induction l9 with
 |nil=>intro z1;show rfl
 |cons x9 r ih=>intro z1;show congrArg (cW _) (ih)
theorem T9{V':Int->Oct}{p:Int×Oct}:∀{ns:List Int}{st:Int},p∈iw V' st ns↔∃(j:Nat)(n:Int),ns[j]?=some n/\p=(n,V' (st+j))
 |[],_=>{λh=>(absurd h aD),λz9=>z9.elim λ_ y0=>y0.elim λ_ y1=>y1.elim λh _=>absurd h.symm (aF _)}
 |m::r,st=>by
  change p∈(m,V' st)::iw V' (st+1) r↔_;rw[aS,T9];constructor
  .rintro(rfl|⟨j,n,e,rfl⟩)
   .show{0,m,rfl,by simp only[dP,ci]}
   .show{j+1,n,e,by simp only[gr,fO,j2 1]}
  .rintro⟨j,n,e,rfl⟩
   induction j using Nat.casesOn with
   |zero=>injection e with e;subst e;show .inl (by simp only[dP,ci])
   |succ j=>show .inr {j,n,e,by simp only[gr,fO,j2 1]}
def rws(V':Int->Oct)(st:Int)(ns:List Int):List Mp:=if ns=[] then [] else [iw V' (st+1) ns,[(st,Ca [])]]
theorem Ta{st:Int}{ns:List Int}:recR V' st ns=Az (rws V' st ns):=by
 unfold recR rws;split
 .rfl
 .simp only[Xz,aH];rfl
theorem RB.rcv(h:RB w m due ns came)(wo:WOk w)(hk:K2 k){V':Int->Oct}(hV:∀(j:Nat)n,(ns k)[j]?=some n->V' (w.st k+1+j)=due k n):Safe (λc=>∃ns,RB w m due ns c) came (rws V' (w.st k) (ns k))/\RB w m due (upd ns k []) (came++(rws V' (w.st k) (ns k)).flatten):=by
 have pl:=wo.pl k hk;have nst:w.st k∉w.own k:=λy=>wo.lg k k _ hk hk y {bM _,by lia};have R:=h.k k hk;unfold rws;rcases bB (ns k=[]) with h0|h0
 .rw[if_pos h0];show{⟨ns,h⟩,?_};simp only[jI,bG,<- h0,Ik];show h
 rw[if_neg h0];have ow:∀p∈iw V' (w.st k+1) (ns k),p.1∈ns k/\p.2=due k p.1:=λp hp=>by
  obtain⟨j,n,e,e9⟩:=T9.mp hp;rw[e9];show{aX e,hV j n e}
 have os:∀{ns':Int->List Int}{came:Mp},RB w m due ns' came->∀{sub:Mp},(∀p∈sub,p.1=w.st k\/p.1∈w.own k)->∀n,(∀k,K2 k->n≠w.st k/\n∉w.own k)->aq (lay m (came++sub)) n=aq m n:=λh sub hs n hn=>by
  rw[Bp,Bh (n:=n) λp hp(y:p.1=n)=>(hs p hp).elim (λe=>(hn k hk).1 (y▸e)) λe=>(hn k hk).2 (y▸e)];show h.o n hn
 have s1:∀sub:Mp,sub.Sublist (iw V' (w.st k+1) (ns k))->RB w m due ns (came++sub):=λsub hs=>by
  show{λj hj=>?_,os h λp hp=>.inr (R.own _ (ow p (hs.subset hp)).1)};rw[Bp];by_cases ej:j=k
  .clear hV pl h0 os;apply Y;subst ej;show{?_,R.own,R.nd,R.len,λi n e=>?_,λn hn h2=>?_}
   .rw[Bh (n:=w.st j) λp hp(y:p.1=w.st j)=>nst (y▸R.own _ (ow p (hs.subset hp)).1)];show R.e
   .have hi:=(aI.mp e).1;have hl:=R.len;rw[Bh λp hp y=>wo.lg j j p.1 hk hk (R.own _ (ow p (hs.subset hp)).1) (by rw[y];show{by show lin 864634087753 225 tt,by show lin 0x284161a826caa62ca81a952 9479 tt hi hl})];show R.lg i n e
   .simp only[Bh (n:=n) λp hp(y:p.1=n)=>h2 (y▸(ow p (hs.subset hp)).1)];show R.ot n hn h2
  .show(h.k j hj).skip wo hj λp hp=>Im wo hk hj ej ((λp hp=>.inr (R.own _ (ow p hp).1):∀p∈iw V' (w.st k+1) (ns k),Area w k p.1) p (hs.subset hp))
 have h1:=s1 _ (.refl _);have fu:∀n∈w.own k,aq (lay m (came++iw V' (w.st k+1) (ns k))) n=due k n:=λn hn=>by
  rcases bB (n∈ns k) with hm|hm
  .rw[Bp];apply Y;obtain⟨i,e⟩:=mV hm;show Ev (λp hp y=>y▸(ow p hp).2) {_,T9.mpr ⟨i,n,e,rfl⟩,rfl}
  .show(h1.k k hk).ot n hn hm
 have h2:RB w m due (upd ns k []) (came++iw V' (w.st k+1) (ns k)++[(w.st k,Ca [])]):=by
  show{λj hj=>?_,os h1 λp hp=>.inl (by rw[aP.mp hp])};rw[Bp];by_cases ej:j=k
  .clear wo hk hV R h0 ow os s1 h1 hj;subst ej;apply @Rk _ _ Y _ _;rw[Ag];show{(Ge (m:=lay m _)).trans (if_pos rfl),λa h=>(absurd h aD),.nil,(cO (cF ‹_›)),λa a h=>(absurd h.symm (aF _)),λn hn a=>?_};rw[Bh λp hp y=>nst (by simp only[<- show p.1=w.st j from by rw[aP.mp hp],y];show hn)];show fu n hn
  .rw[Af ej];show(h1.k j hj).skip wo hj λp hp=>Im wo hk hj ej (by simp only[aP.mp hp];show .inl {bM _,by change w.st k<_;lia})
 show{{λsub hs=>{ns,s1 sub hs},λsub hs=>?_,⟨_,h2⟩},?_}
 .rcases T6 hs with rfl|rfl
  .rw[bG];show⟨ns,h1⟩
  .show⟨_,h2⟩
 .rw[gZ,<- aH];show h2
end
section
variable{w:W}{k j n f:Int}{m sub came came' ws:Mp}{i t b:Nat}{S:List Mp}{s:DS}{ns ns':Int->List Int}{due:Int->Int->Oct}{fl:Bool}{ps:List Int}
theorem Io:∀{rs:List Row}{s:DS},s.last=none->s.ax=none->(exec s rs).1=false/\(exec s rs).2.ah=lay s.ah (rs.filterMap id)/\(exec s rs).2.blocks=s.blocks:=by
 intro l9
 induction l9 with
 |nil=>intro s z1 z2;show⟨rfl,rfl,rfl⟩
 |cons r rs ih =>
  intro s h1 h2;have o:s.out r=false:=by
   rcases r
   .change gone s.ax _=_;rw[h2];rfl
   .change gone s.last _=_;rw[h1];rfl
  rw[Bs,o];clear o;induction r using Option.casesOn with
  |none=>show ih (s:=s.fl) h1 h2
  |some p=>show ih (s:=s.wr p.1 p.2) h1 h2
theorem Tc:∀{S:List Mp},(Az S).filterMap id=S.flatten:=by
 intro l9
 induction l9 with
 |nil=>show rfl
 |cons ws S ih =>
  skip;change(ws.map some++none::Az S).filterMap id=ws++S.flatten;rw[fN,nH,gi rfl,ih];show congrArg (·++S.flatten) (List.filterMap_some ..)
theorem Qk:∀{S:List Mp},Az S=[]\/∃R,Az S=R++[none]:=by
 intro l9
 induction l9 with
 |nil=>show .inl rfl
 |cons ws S ih=>show .inr (by
  rcases ih with e|⟨R,e⟩
  .show{ws.map some,by change ws.map some++none::Az S=_;rw[e]}
  .show{ws.map some++none::R,by change ws.map some++none::Az S=_;simp only[e,aH];rfl})
theorem Td(h1:s.last=none)(h2:s.ax=none)(hu:s.ar=[]):(exec s (Az S)).2.ar=[]:=by
 rcases Qk (S:=S) with e|⟨R,e⟩
 .show e▸hu
 .have hf:=(Io (rs:=Az S) h1 h2).1;rw[e]at hf ⊢;have h0:=(Io (rs:=R) h1 h2).1;rw[Eu,h0]at hf ⊢;simp only[Bs]at hf ⊢;rcases eo:(exec s R).2.out none<;>rw[eo]at hf
  .rfl
  .show aR hf
theorem Mu{u:Mp}{i:Nat}:(picks u ps i).Sublist (u.take i):=by
 induction i with
 |zero=>show jF _
 |succ i ih=>
  generalize e:u[i]?=o;rcases o with _|p
  .have hi:=aO.mp e;have:picks u ps (i+1)=picks u ps i:=by
    unfold picks;rw[dF,fN,gi (by rw[e];split<;>rfl)];show bG _
   rw[this,bT (iB hi)];rwa [bT hi]at ih
  .simp only[Jf e,cE,e];show .append ih ?_;split
   .show .refl _
   .show jF _
theorem RB.base(h:RB w m due ns came):RB w (lay m came) due ns []:={h.k,λa a=>rfl}
theorem RB.more(h:RB w m due ns came)(h2:RB w (lay m came) due ns' came'):RB w m due ns' (came++came'):={λk hk=>by rw[Bp];show h2.k k hk,λn hn=>by rw[Bp];show(h2.o n hn).trans (h.o n hn)}
theorem RB.heads(h:RB w m due ns came)(e:s.ah=lay m came):Kt w s ns:=by
 have a:s.at_=aq (lay m came):=by unfold DS.at_ aq;rw[e]
 show{λk hk=>by rw[a];show(h.k k hk).e,λk hk=>(h.k k hk).own,λk hk=>(h.k k hk).nd,λk hk=>(h.k k hk).len}
def rw2(w:W)(m:Mp)(ns:Int->List Int)(f:Int):List Mp:=rws (aq m) (w.st f) (ns f)++rws (aq m) (w.st (1-f)) (ns (1-f))
theorem Te(e:s.ah=m):recs w s ns f 3=Az (rw2 w m ns f):=by
 have a:s.at_=aq m:=by unfold DS.at_ aq;rw[e]
 unfold recs rw2;rw[a,Jn,<- Ta,<- Ta];change recR _ _ _++(recR _ _ _++([]++[]))=_;rw[bG,bG]
theorem RB.both(h:RB w m due ns [])(wo:WOk w)(hf:K2 f):Safe (λc=>∃ns,RB w m due ns c) [] (rw2 w m ns f)/\∃ns',(∀k,K2 k->ns' k=[])/\RB w m due ns' (rw2 w m ns f).flatten:=by
 obtain⟨s1,h1⟩:=h.rcv wo hf (V':=aq m) (h.k f hf).lg;obtain⟨s2,h2⟩:=h1.rcv wo hf.flip (V':=aq m) (((Af hf.ne:upd ns f [] (1-f)=ns (1-f))▸(h.k (1-f)) hf.flip).lg);simp only[(Af hf.ne:upd ns f [] (1-f)=ns (1-f))]at s2 h2;show{s1.app s2,upd (upd ns f []) (1-f) [],λk hk=>?_,?_}
 .by_cases e1:k=f
  .rw[<- e1];rw[Af hk.ne.symm,Ag]
  .rw[show k=1-f by clear s1 h1 s2 h2;rcases hk with rfl|rfl<;>rcases hf with rfl|rfl<;>first|show absurd rfl e1|rfl,Ag]
 .show gd▸h2
theorem Y0(wo:WOk w)(h:RB w m due ns [])(e1:s.kept=m)(e2:s.ah=m)(eu:s.ar=[])(l1:s.last=none)(l2:s.ax=none)(hb:s.blocks=w.blocks)
  (fin:∀came ns',(∀k,K2 k->ns' k=[])->RB w m due ns' came->∀s2:DS,s2.blocks=w.blocks->s2.ah=lay m came->s2.view=vs):Recd w s vs.flatten:=by
 show{ns,h.heads e2,λfl c f hc hf ps hr=>?_};obtain⟨sf,a⟩:=h.both wo hf;have el:(s.ai fl c).ah=m:=by clear vs wo h e1 eu l1 l2 hb fin f hc hf ps hr sf a;rcases fl<;>show e2
 have hbl:(s.ai fl c).blocks=w.blocks:=by clear vs wo h e1 e2 eu l1 l2 fin f hc hf ps hr sf a el;rcases fl<;>show hb
 have cs:CuS fl (s.ai fl c) m {c,[],[]}:=by
  clear vs wo h e2 hb fin f hf ps hr sf a el hbl;rcases fl
  .show{hc,⟨rfl,l2⟩,e1,eu}
  .show{hc,⟨l1,rfl⟩,e1,eu}
 have q:=T3 (rs:=recs w (s.ai fl c) ns f 3) cs;rw[Te el]at q ⊢;obtain⟨a,q2,q3,a⟩:=q;have bl:(exec (s.ai fl c) (Az (rw2 w m ns f))).2.blocks=w.blocks:=by
  have:∀{rs:List Row}{s:DS},(exec s rs).2.blocks=s.blocks:=λ{rs}=>by
   induction rs with
   |nil=>show rfl
   |cons r rs ih=>
    intro s;simp only[Bs]
    cases s.out r with
    |true=>rfl
    |false=>show(ih (s:=s.stp r)).trans (by rcases r<;>rfl)
  show this.symm▸hbl
 generalize (exec (s.ai fl c) (Az (rw2 w m ns f))).2=s1 at q2 q3 bl ⊢;have ks:(picks s1.ar ps s1.ar.length).Sublist (An fl {c,[],[]} (Az (rw2 w m ns f))).1.ak:=by
  simp only[<- q3];have:=Mu (u:=s1.ar) (ps:=ps) (i:=s1.ar.length);rwa [lM]at this
 obtain⟨ns2,h2⟩:=P9 sf _ ks;have ea:(s1.aft ps).ah=lay m ((An fl {c,[],[]} (Az (rw2 w m ns f))).1.sure++picks s1.ar ps s1.ar.length):=by simp only[Bp,<- q2];rfl
 generalize (An fl {c,[],[]} (Az (rw2 w m ns f))).1.sure++picks s1.ar ps s1.ar.length=came at h2 ea;show{ns2,h2.heads ea,λf2 hf2=>?_};rw[Te ea];apply Y;obtain⟨a,ns3,hn,h3⟩:=h2.base.both wo hf2;obtain⟨g1,g2,g3⟩:=Io (rs:=Az (rw2 w (lay m came) ns2 f2)) (s:=s1.aft ps) rfl rfl;show{g1,congrArg _ (fin _ ns3 hn (h2.more h3) _ (g3.trans bl) ?_),Td rfl rfl rfl};simp only[g2,ea,Tc,Bp]
end
section
variable{w:W}{b c bend:Bk}{k n way:Int}{o:Oct}{m came:Mp}{i t:Nat}{s:DS}{D:List Deed}{H H':AH}{a:aK}{ob:AObj}{l:List (aK×AObj)}
theorem Rise.fil{m:Nat}{ns:List Int}(h:Rise ns m):(cG m).filter (λ(j:Nat)=>decide ((j:Int)∈ns))=ns.map jw:=by
 induction m generalizing ns with
 |zero=>
  rcases ns with _|⟨x,r⟩
  .rfl
  .have:=h.lt x (.head _);lia
 |succ m ih=>
  by_cases hm:(m:Int)∈ns
  .obtain⟨l1,l2,rfl⟩:=ic hm;have up:=mR.mp h.u;have e2:l2=[]:=by
    rcases l2 with _|⟨y,r⟩
    .rfl
    .have h1:=(nG.mp up.2.1).1 y (.head _);have h2:=(h.lt y (aG _ (.tail _ (.head _)))).2;show absurd ‹_› (Int.not_lt_of_ge ‹_›)
   subst e2;have r1:Rise l1 m:={up.1,λx hx=>{(h.lt x (aU _ hx)).1,up.2.2 x hx m (.head _)}};simp only[dF,dJ,iQ (p:=λ(j:Nat)=>decide ((j:Int)∈l1++[(m:Int)])) (decide_eq_true hm),aJ,<- ih r1];show congrArg (·++[m]) (nS λj hj=>?_);have:=fW.mp hj;rw[decide_eq_decide];show{λh=>(aZ.mp h).resolve_right λh=>by have:=aP.mp h;show lin 708185620220994 295 tt ‹_› this,aU _}
  .have r1:Rise ns m:=⟨h.u,λx hx=>⟨(h.lt x hx).1,by
    have h2:=(h.lt x hx).2;have:x≠m:=λy=>hm (y▸hx);lia⟩⟩
   rw[dF,dJ,iR (by simp only[decide_eq_true_eq];show hm),List.filter_nil,bG];show ih r1
theorem Rise.picks{u:Mp}(h:Rise ns u.length):Mine.picks u ns u.length=ns.filterMap λn=>u[n.toNat]?:=by
 simp only[show(ns.filterMap λn=>u[n.toNat]?)=(ns.map jw).filterMap (u[·]?) from(nH ..).symm,<- (h.fil),List.filterMap_filter];unfold Mine.picks;congr 1;funext j;by_cases hj:(j:Int)∈ns
 .rw[if_pos hj,if_pos (decide_eq_true hj)]
 .rw[if_neg hj,if_neg (by simp only[decide_eq_true_eq];show hj)]
theorem Tf:∀{D:List Deed}{s:DS}{i:Nat},(runD s i D).2=(exec s (D.flatMap (·.rows))).2:=by
 intro l9
 induction l9 with
 |nil=>intro z1 z2;show rfl
 |cons d D ih =>
  intro s i;simp only[Gd,gv,Eu]
  induction e:(exec s d.rows).1 using Bool.casesOn with
  |true=>rfl
  |false=>show ih (i:=i+1)
theorem Pa(h:∀p∈nt,p.2.length=16):(aq nt n).length=16:=by
 unfold aq
 induction e:lget nt n using Option.casesOn with
 |none=>rfl
 |some v=>
  have:∃p∈nt,p.2=v:=by
   clear h
   induction nt with
   |nil=>contradiction
   |cons q r ih=>
    by_cases e2:q.1=n
    .rw[E1 e2]at e;clear ih;injection e with e;subst e;show{q,.head _,rfl}
    .rw[De e2]at e;obtain⟨p,hp,e3⟩:=ih e;show{p,.tail _ hp,e3}
  clear e;obtain⟨p,hp,rfl⟩:=this;show h p hp
theorem Ve{α:Type}{S T:List (List α)}(h:S.Sublist T):S.flatten.Sublist T.flatten:=by
 induction h with
 |slnil=>show .refl _
 |cons a _ ih=>show ih.trans (bW ..)
 |cons_cons a _ ih=>show .append (.refl _) ih
theorem Tg(wo:WOk w)(hk:K2 k)(bi:BI w b t)(ht:t<=900)(sl:∀i,K2 i->Sl w b i):(∀r∈(Au w b k way n o).2.rows,En w.blocks r)/\(Au w b k way n o).2.rows.length<=12:=by
 have bi2:=bi.av (way:=way) wo hk;have sl2:=Sl.av (k:=k) (way:=way) sl hk;unfold Au Hb;generalize Bj w b k way=c at bi2 sl2 ⊢;have J:Jok (bj w c (λa=>0) k) w.blocks:=W4 wo hk (bi2 k hk) (dW ‹_› (nle rfl));have l12:(grp (aq (c.a8 k)) (w.st k) (keys (c.a8 k))).length<=12:=by
  have:=J.pl;have e:(keys (c.a8 k)).length<=3:=by have:=J.len;change((bj w c (λa=>0) k).nums).length<=3;show lin 0x1ec1ecac2dd85a0523d849 10536 tt ‹_› this
  rw[<- Hm,Hj];show lin 0x48f614b37236c48e841 9191 tt e
 have all:∀rs:List Row,rs.Sublist (grp (aq (c.a8 k)) (w.st k) (keys (c.a8 k)))->(∀r∈rs,En w.blocks r)/\rs.length<=12:=λrs hs=>{λr hr=>Om J (λn=>Pa λp hp=>((bi2 k hk).ow p hp).2) r (hs.subset hr),aC hs.length_le l12}
 cases way==3||c.av k with
 |true=>
  change(∀r∈((c.strides k).take 1).flatten,En w.blocks r)/\(((c.strides k).take 1).flatten).length<=12;show all _ ?_;apply @List.Sublist _ _ Y;rcases sl2 with⟨a,e⟩|⟨a,a,i,e⟩
  .rw[e];show jF _
  .rw[e];show Ve ((List.take_sublist ..).trans (List.drop_sublist ..))
 |false=>
  change(∀r∈(dueB w c k way n o).2.2,En w.blocks r)/\((dueB w c k way n o).2.2).length<=12;generalize ed:dueB w c k way n o=d;have D:=ed▸Xv (w:=w) (c:=c) (k:=k) (way:=way) (n:=n) (o:=o);clear wo hk bi ht sl bi2 sl2 J l12 ed;induction D using DueE.casesOn with
  |no=>show all [] (jF _)
  |all=>show all _ (by rw[<- Hm];show .refl _)
theorem Fw.rows(wo:WOk w)(h:Fw w b D bend):∀{t:Nat},BI w b t->t+2*D.length<=800->(∀i,K2 i->Sl w b i)->∀d∈D,(∀r∈d.rows,En w.blocks r)/\d.rows.length<=12:=by
 induction h with
 |nil=>show λa a a d h=>absurd h aD
 |cons hk hw hd h ih=>
  intro t bi ht sl d hm;simp only[cK]at ht;apply Y;rcases aS.mp hm with e8|hm
  .subst e8;show Tg wo hk bi (lin 0x13907242476a20a784e042 270306 tt ht) sl
  .show ih (bi.cu wo hk hd) (lin 0x13907242476a20a720e4848e8a42d842 263 tt ht) (λi hi=>Sl.cu sl hk hi) d hm
theorem L1(h:∀d∈D,d.rows.length<=12):(D.flatMap (·.rows)).length<=12*D.length:=by
 induction D with
 |nil=>show bC _
 |cons d D ih=>
  have:=h d (.head _);have:=ih λd hd=>h d (.tail _ hd);simp only[gv,aV,cK];show lin 0x966c29623a312588ed4721043 9479 tt ‹_› this
theorem Pb:∀{s s0:DS},s.blocks=s0.blocks->s.ah=lay s0.ah r->(∀p∈r,0<=p.1/\p.1<s0.blocks)->s.view=wrV s0.view (r.map some):=by
 induction r with
 |nil=>intro s s0 hb e b;unfold DS.view DS.at_;rw[hb,e];rfl
 |cons p r ih=>
  intro s s0 hb e h;show(ih (s:=s) (s0:=s0.wr p.1 p.2) hb e λq hq=>h q (.tail _ hq)).trans ?_;rw[Sz (h p (.head _))];rfl
theorem HL.more(h:HL H l)(e:Ext H H')(n:H a=none)(h':H' a=some ob):HL H' ((a,ob)::l):=by
 show{λp hp=>?_,bX.mpr {λhm=>?_,h.nd}}
 .rcases aS.mp hp with e8|hp
  .subst e8;show h'
  .show e _ _ (h.at_ p hp)
 .obtain⟨p,hp,ep⟩:=aE.mp hm;have:=h.at_ p hp;simp only[ep,n]at this;show absurd this.symm (aF _)
end
section
variable{F:Fx}{H:AH}{K:V->AH->Prop}{w:W}{b:Bk}{x:BkA}{s:DS}{y:DA}{L A:List (aK×AObj)}{bx da va:aK}{N:Int}{came:Mp}{k:Int}{vs:List Oct}
def fxR(w:W)(sts:Int->List Mp)(came:Mp)(k:Int):Mp:=(w.st k,Bo)::(w.own k).map λn=>(n,dueS w sts k came n)
def fxV(w:W)(sts:Int->List Mp)(came:Mp)(vs:List Oct):Nat->List Oct
 |0=>vs
 |1=>wrV vs ((fxR w sts came 0).map some)
 |_=>wrV (wrV vs ((fxR w sts came 0).map some)) ((fxR w sts came 1).map some)
inductive OnJ(H:AH)(va:aK)(w:W)(k:Int)(sl0:List (Option V))(f:Int->Oct)(vs:List Oct)(sq:Sq)(i:Nat)(sl:List (Option V))(H':AH):Prop
 |mk (u:Option V) (hs:sl=sl0++[u]) (e:sq=.vals none ((w.own k).map .int)) (p:H'=H.set va (.list (ysL (wrV vs (((w.own k).take i).map λn=>some (n,f n))))))
inductive KfJ(H:AH)(va:aK)(w:W)(sts:Int->List Mp)(came:Mp)(vs:List Oct)(sl0:List (Option V))(sq:Sq)(i:Nat)(sl:List (Option V))(H':AH):Prop
 |mk(u13 u14 u15 u16:Option V)(hs:sl=sl0++[u13,u14,u15,u16])(e:sq=.rng 0 1 2)(hi:i<=2)(p:H'=H.set va (.list (ysL (fxV w sts came vs i))))
theorem Th:∀{v:List Oct},wrV v (a++c)=wrV (wrV v a) c:=by
 induction a with
 |nil=>show rfl
 |cons r a ih=>intro v;rcases r<;>show ih
def kfSt:St:=.set 14 (.sub (.sub 'B' (.con (.str "starts"))) 'N') (.set 15 (.call (.builtin "len") [(.raw (B0 [1] (stE 0 (Ad [9,0,1] (A7 (tst 44))))))]) (.bq 'M' 'O' (.call (.type "bytes") ['q']) (.raw (Ad [9,0,3] (A7 (tst 44))) .done)))
def onSt:St:=.bq 'M' 'Q' (.af (.sub (.sub 'D' 'N') 'P') "get" ['Q',(.call (.type "bytes") ['q'])]) .done
theorem fix_ok(wo:WOk w)(hst:H x.s=some (.list (duo λk=>.ref (x.sk k))))(hsk:∀k,K2 k->H (x.sk k)=some (.list (stV (b.a9 k))))(hne:∀k,K2 k->x.sk k≠va)(hns:x.s≠va)(hv:vs.length=w.blocks.toNat)(hc:came.length<=1000)(hg:∀k,K2 k->cnt w k came<(b.a9 k).length)
  (hz:∀k,K2 k->(b.a9 k).length<=1000) (hK:∀u13 u14 u15 u16,KN [s0,some w.val,s2,some ↑x.s,s4,s5,s6,s7,s8,s9,s10,some (.list (unV came)),some ↑va,u13,u14,u15,u16] (H.set va (.list (ysL (fxV w b.a9 came vs 2))))) :
  evS F.u.u.u.u.u.u.u.u.u.u.u.u.u.u.bd (A9 (tst 44)).names K (.raw (Ad [9] (A7 (tst 44))) .done) KN [s0,some w.val,s2,some ↑x.s,s4,s5,s6,s7,s8,s9,s10,some (.list (unV came)),some ↑va] (H.set va (.list (ysL vs))):=by
 show(let K0:=_;let K5:=_;(?_:@evS K0 _ _ _ _ K5 _));have wb:=wo.bl;have zl:∀{m:Mp},(unV m).length=m.length:=aA ..;have yl:∀{m:List Oct},(ysL m).length=m.length:=aA ..;show WS1.f6 (is:=[13]) (st:=kfSt) (KfJ H va w b.a9 came vs [s0,some w.val,s2,some ↑x.s,s4,s5,s6,s7,s8,s9,s10,some (.list (unV came)),some ↑va]) rfl rfl (λc c=>rfl) rfl rfl ?_ (λsq i sl H' j=>?_) (λsq i sl H' v j e=>?_) λsq i sl H' j e=>?_
 .show WI.rg (i:=25) (ex:=.con (.int 2)) rfl (λa a=>rfl) rfl {2,rfl,dte tt,.rng,_,⋯,none,none,none,none,rfl,rfl,nle tt,rfl}
 .obtain⟨u13,u14,u15,u16,rfl,rfl,hi,rfl⟩:=j;trivial
 .apply @evS _ _ _ _ Y _ _;obtain⟨u13,u14,u15,u16,rfl,rfl,hi,rfl⟩:=j;obtain⟨hi2,rfl⟩:=Dd e;have hk:K2 ((0:Int)+i*1):=by rcases lt2 hi2 with rfl|rfl;show .inl rfl;show .inr rfl
  have ek:((0:Int)+i*1)=i:=lin 0x750320abb40d81 7175 tt;simp only[ek]at hk ⊢;have st:=wo.st _ hk;have pl:=wo.pl _ hk;have fl:(fxV w b.a9 came vs i).length=w.blocks.toNat:=by
   apply Y;obtain rfl|rfl:i=0\/i=1:=by lia
   .show hv
   .show Dg.trans hv
  have fs:fxV w b.a9 came vs (i+1)=wrV (fxV w b.a9 came vs i) ((fxR w b.a9 came i).map some):=by
   obtain rfl|rfl:i=0\/i=1:=by lia
   .rfl
   .rfl
  have hst':∀v,(H.set va v) x.s=some (.list (duo λk=>.ref (x.sk k))):=λv=>(if_neg hns).trans hst;have hsk':∀v,(H.set va v) (x.sk i)=some (.list (stV (b.a9 i))):=λv=>(if_neg (hne i hk)).trans (hsk i hk);generalize fxV w b.a9 came vs i=v0 at fl fs ⊢;show G2.aa (w:=iL [w.st 0,w.st 1]) .fro rfl (G2.two (f:=λk=>.int (w.st k)) hk .d ?_);apply @evS _ _ _ _ _ Y _;show WE.co (WCo.f1 (j:=1) (ex:=.loc 1) (cx:=.and (.cmp .Eq (.sub 'B' 'a') 'D') (.cmp .NotEq (.sub 'B' 'b') (.call (.type "bytes") ['q']))) (λsq i1 xs H'=>(sq=.vals none (unV came))/\(xs=unV ((came.take i1).filter λp=>p.1==w.st i&&p.2 !=Bo))/\(H'=(H.set va (.list (ysL v0))))) tt rfl rfl ⋯ rfl (λc c=>rfl) ?_ (λsq j xs H' q=>?_) (λsq j xs H' v q e=>?_) λsq j xs H' q e=>?_)
  .show WI.ex (ex:=.loc 11) rfl {none,_,.d,.vals,rfl,rfl,rfl}
  .obtain⟨rfl,rfl,rfl⟩:=q;show{trivial,?_};rw[zl];have:=dZ (λp=>p.1==w.st i&&p.2 !=Bo) (came.take j);simp only[dT]at this;show lin 0x4fd1c1a44148c49d043 337159 tt hc this (dC _ _)
  .apply @ev _ _ _ _ _ _ Y;obtain⟨rfl,rfl,rfl⟩:=q;have e:(came.map λp=>.tup [.int p.1,.bytes p.2])[j]?=some v:=e;rw[bK,bF]at e;obtain⟨p,ep,rfl⟩:=e;have nx:∀{t:Bool},(p.1==w.st i&&p.2 !=Bo)=t->unV ((came.take j).filter λp=>p.1==w.st i&&p.2 !=Bo)++(bif t then [.tup [.int p.1,.bytes p.2]] else [])=unV ((came.take (j+1)).filter λp=>p.1==w.st i&&p.2 !=Bo):=λ{t}e=>by
    simp only[cE,ep,dJ];unfold unV;simp only[aJ];show congrArg (_++·) ?_
    induction t using Bool.casesOn with
    |true=>rw[show(some p).toList=[p] from rfl,iQ (p:=λp:Int×Oct=>p.1==w.st i&&p.2 !=Bo) (a:=p) e];rfl
    |false=>rw[show(some p).toList=[p] from rfl,iR (p:=λp:Int×Oct=>p.1==w.st i&&p.2 !=Bo) (a:=p) (by rw[e];decide)];rfl
   show G2.tup (w:=.int p.1) (dte tt) (dte tt) rfl (bifB (λe1=>?_) λe1=>{rfl,by simp only[<- nx (t:=false) (by rw[e1];rfl)];show(bG _).symm,rfl});show G2.tup (w:=.bytes p.2) (dte tt) (dte tt) rfl (WC.b9 '#' '#' (W2.neY (bifB (λe2=>{rfl,nx (t:=true) (by rw[e1];show e2),rfl}) λe2=>{rfl,by simp only[<- nx (t:=false) (by rw[e1];show e2)];show(bG _).symm,rfl})))
  .obtain⟨rfl,rfl,rfl⟩:=q;have he:=aO.mp e;rw[zl]at he;rw[bT he];have ec:(came.filter λp=>p.1==w.st i&&p.2 !=Bo).length=cnt w i came:=rfl;have hl:=dZ (λp=>p.1==w.st i&&p.2 !=Bo) came;rw[ec]at hl;show WC.bg .d (by simp only[zl,ec];show lin 0x9fa382488290a047e842 9479 tt hc hl) ?_;simp only[zl,ec];show WC.b9 '#' '#' (U3.list (if_pos rfl) st.1 (by rw[yl,fl];show lin 0x7b0d2a9cac2d9ec1ecec3dd94099b40959 404776 tt st pl (fR _)) (by rw[yl,fl];lia) ?_);simp only[Nv,show(ysL v0).set (w.st i).toNat (.bytes (bO (16:Int).toNat 0))=ysL (v0.set (w.st i).toNat Bo) by unfold ysL;simp only[m7];rfl];show WS1.f6 (is:=[16]) (st:=onSt) (OnJ H va w i [s0,some w.val,s2,some ↑x.s,s4,s5,s6,s7,s8,s9,s10,some (.list (unV came)),some ↑va,some (.int i),some (.int (w.st i)),some (.int (cnt w i came))] (dueS w b.a9 i came) (v0.set (w.st i).toNat Bo)) rfl rfl (λc c=>rfl) rfl rfl ?_ (λsq j sl H' q=>?_) (λsq j sl H' v q e=>?_) λsq j sl H' q e=>?_
   .show WI.ex (ex:=.sub (.sub 'B' (.con (.str "own"))) 'N') rfl (G2.aa (w:=.list [iL (w.own 0),iL (w.own 1)]) .fro rfl (G2.two (f:=λk=>iL (w.own k)) hk .d {none,_,.d,.vals,_,rfl,u16,rfl,rfl,rfl}))
   .obtain⟨u,rfl,rfl,rfl⟩:=q;trivial
   .apply @evS _ _ _ _ Y _ _;obtain⟨u,rfl,rfl,rfl⟩:=q;apply Y;obtain⟨n,en,rfl⟩:=Bt e;have hn:=(wo.own i hk).2 n (aX en);have hgi:=hg i hk;obtain⟨m,em⟩:∃m,(b.a9 i)[cnt w i came]?=some m:={_,bE hgi};show G2.two (f:=λk=>.ref (x.sk k)) hk {rfl,hst' _} (G2.list (w:=.ae (Ax m)) {rfl,hsk' _} (cr _) (lin 0x13f47049105a1f08fda042 9479 tt hc hl) (by simp only[kb];unfold stV;rw[bK,em];rfl) ?_);apply @Av _ _ _ _ Y;show .blt "dict.get" (Gm.ae cB rfl .fro) (WC.b9 '#' '#' (WC.dh .fro ?_));have ed:(lget (Ax m) n).getD (.bytes (bO (16:Int).toNat 0))=.bytes (dueS w b.a9 i came n):=by
     rw[Dq]
     delta dueS aq
     rw[dI,em];change _=V.bytes ((lget m n).getD Bo)
     cases lget m n<;>rfl
    rw[ed];show U3.list (if_pos rfl) hn.1 (by simp only[yl,Dg,kF,fl];show lin 0xf698ac2d994099b40951 10536 tt hn (fR _)) (by simp only[yl,Dg,kF,fl];lia) {_,rfl,rfl,?_};simp only[Nv];show congrArg (λv=>H.set va (.list v)) ?_;simp only[cE,en,aJ,Th];unfold ysL;rw[<- m7];rfl
   .obtain⟨u,rfl,rfl,rfl⟩:=q;have he:=aO.mp e;rw[aA]at he;simp only[bT he];show{_,rfl,_,_,_,_,rfl,rfl,hi2,?_};rw[fs];unfold fxR;simp only[fA,dB];rfl
 .obtain⟨u13,u14,u15,u16,rfl,rfl,hi,rfl⟩:=j;obtain rfl:i=2:=cA hi (Ct e);show{_,rfl,hK _ _ _ _}
variable{n:Int}{m came':Mp}{s2 s3:DS}{ns ns':Int->List Int}{sts:Int->List Mp}{p:Int×Oct}
theorem Pc(h:p∈fxR w sts came 0++fxR w sts came 1):∃k,K2 k/\p∈fxR w sts came k:=(aZ.mp h).elim (λh=>{0,.inl rfl,h}) λh=>{1,.inr rfl,h}
theorem W5(hk:K2 k)(h:p∈fxR w sts came k):p∈fxR w sts came 0++fxR w sts came 1:=by
 apply Y;rcases hk with rfl|rfl
 .show aU _ h
 .show aG _ h
theorem Vf(wo:WOk w)(h:RB w m (dueS w sts · came) ns' came')(hn:∀k,K2 k->ns' k=[]):aq (lay m came') n=aq (lay m (fxR w sts came 0++fxR w sts came 1)) n:=by
 by_cases h1:∃k,K2 k/\n=w.st k
 .obtain⟨k,hk,rfl⟩:=h1;simp only[(h.k k hk).e,hn k hk];show(Ev (v:=Bo) (λp hp y=>?_) {_,W5 hk (.head _),rfl}).symm;obtain⟨j,hj,hp⟩:=Pc hp;rcases aS.mp hp with e8|hp
  .subst e8;rfl
  .skip;obtain⟨n',hn',rfl⟩:=aE.mp hp;have y:n'=w.st k:=y;show absurd {(y▸bM _),by rw[y];have:=wo.pl k hk;show lin 0x7b07b330d76caa62950 295 tt this} (wo.lg j k n' hj hk hn')
 .rcases bB (∃k,K2 k/\n∈w.own k) with h2|h2
  .obtain⟨k,hk,ho⟩:=h2;show((h.k k hk).ot n ho (by rw[hn k hk];show λh=>absurd h aD)).trans (Ev (λp hp y=>?_) {_,W5 hk (.tail _ (aE.mpr ⟨n,ho,rfl⟩)),rfl}).symm;obtain⟨j,hj,hp⟩:=Pc hp;rcases aS.mp hp with e8|hp
   .subst e8;show absurd {j,hj,y.symm} h1
   .skip;obtain⟨n',hn',rfl⟩:=aE.mp hp;clear h1;obtain rfl:n'=n:=y;have:j=k:=by
     clear hp;rcases hk with rfl|rfl<;>rcases hj with rfl|rfl<;>first|rfl|show absurd ho (wo.dis _ hn')|show absurd hn' (wo.dis _ ho)
    rw[this]
  .show(h.o n λk hk=>{λy=>h1 ⟨k,hk,y⟩,λy=>h2 ⟨k,hk,y⟩}).trans (Bh λp hp y=>?_).symm;obtain⟨j,hj,hp⟩:=Pc hp;rcases aS.mp hp with e8|hp
   .subst e8;show h1 {j,hj,y.symm}
   .skip;obtain⟨n',hn',rfl⟩:=aE.mp hp;show h2 {j,hj,y▸hn'}
theorem Vg(wo:WOk w)(h:RB w m (dueS w sts · came) ns' came')(hn:∀k,K2 k->ns' k=[])(e2:s2.ah=m)(b2:s2.blocks=w.blocks)(e3:s3.ah=lay m came')(b3:s3.blocks=w.blocks):s3.view=fxV w sts came s2.view 2:=by
 have e:fxV w sts came s2.view 2=wrV s2.view ((fxR w sts came 0++fxR w sts came 1).map some):=by simp only[aJ,Th];rfl
 rw[e,<- Pb (s:={s2 with ah:=lay s2.ah (fxR w sts came 0++fxR w sts came 1)}) (s0:=s2) rfl rfl λp hp=>?_]
 .unfold DS.view DS.at_;simp only[e3,e2];simp only[b3,b2];show ju λi a=>Vf wo h hn
 .obtain⟨k,hk,hp⟩:=Pc hp;simp only[b2];rcases aS.mp hp with e8|hp
  .subst e8;have:=wo.st k hk;have:=wo.pl k hk;show{this.1 |> λa=>(wo.st k hk).1,by change w.st k<_;show lin 0x3d86954e5616cf60f6761eed3158 11560 tt ‹_› this}
  .skip;obtain⟨n',hn',e9⟩:=aE.mp hp;show e9▸(wo.own k hk).2 n' hn'
theorem pa_rb(h:PA w sts came):∃ns,RB w (lay [] came) (dueS w sts · came) ns []:=by
 apply Y;obtain⟨a,ns0,r0⟩:=h 0 (.inl rfl);obtain⟨a,ns1,r1⟩:=h 1 (.inr rfl);show{λk=>if k=0 then ns0 else ns1,λk hk=>?_,λa a=>rfl};rcases hk with rfl|rfl
 .show r0
 .show r1
theorem Ql(wo:WOk w)(h:PA w sts came)(e1:s.kept=lay [] came)(e2:s.ah=lay [] came)(eu:s.ar=[])(l1:s.last=none)(l2:s.ax=none)(hb:s.blocks=w.blocks):Recd w s (fxV w sts came s.view 2).flatten:=by
 apply Y;obtain⟨ns,r⟩:=pa_rb h;show Y0 wo r e1 e2 eu l1 l2 hb λcame' ns' hn r' s3 b3 e3=>Vg wo r' hn e2 hb e3 b3
end
section
variable{F:Fx}{H:AH}{K:V->AH->Prop}{w:W}{b:Bk}{x:BkA}{L A:List (aK×AObj)}{bx da:aK}{N:Int}{D:List Deed}{fl:Bool}{c:Int}
theorem Vh{a b:Mp}:Sms (unV a) (unV b):=λj x y h1 h2=>by
 unfold unV at h1 h2;rw[bK,bF]at h1 h2;obtain⟨c,c,rfl⟩:=h1;apply Y;obtain⟨c,c,rfl⟩:=h2;show .row
theorem W6(h:2<=n/\n<=100):DI (DS.new n) 1000:={h,rfl,{bM _,by change(0:Int)+1000<=10^6;decide},{bM _,by change(0:Int)+1000<=10^6;decide},by change 0+1000<=10^5;decide,{.nil,λa h=>absurd h aD},{.nil,λa h=>absurd h aD},λa h=>(absurd h aD),rfl}
structure PtE(w:W)(b:Bk)(fl:Bool)(c:Int)(D:List Deed)(s:DS)(sure ak:Mp):Prop where
 k:s.kept=lay [] sure
 u:s.ar=ak
 bl:s.blocks=w.blocks
 ok:s.Ok
 aft:∀ps,DI (s.aft ps) 1000
 ll:ak.length<=300
 sl:sure.length<=600
 sr:∀p∈sure++ak,0<=p.1/\p.1<w.blocks
 pa:∀sub:Mp,sub.Sublist ak->PA w b.a9 (sure++sub)
theorem cu_mem:∀{rs:List Row}{q:Cu}{p:Int×Oct},p∈(An fl q rs).1.sure++(An fl q rs).1.ak->p∈q.sure++q.ak\/some p∈rs:=by
 intro l9
 induction l9 with
 |nil=>intro q p h;show .inl h
 |cons r rs ih =>
  intro q p h;have st:∀{q2:Cu},q2.sure=q.sure->q2.ak=q.ak->p∈(An fl (q2.step r) rs).1.sure++(An fl (q2.step r) rs).1.ak->p∈q.sure++q.ak\/some p∈r::rs:=λ{q2}e1 e2 h=>by
   rcases ih h with h|h
   .induction r using Option.casesOn with
    |none=>
     have h:p∈(q2.sure++q2.ak)++[]:=h;rw[bG,e1,e2]at h;show .inl h
    |some v=>
     have h:p∈q2.sure++(q2.ak++[v]):=h;rw[e1,e2,<- aH]at h;show(aZ.mp h).imp id λh=>by rw[aP.mp h];show .head _
   .show .inr (.tail _ h)
  simp only[Bn]at h;rcases e:r.isNone==fl<;>rw[e]at h
  .show st (q2:=q) rfl rfl h
  .rcases e2:q.count==0<;>rw[e2]at h
   .show st (q2:={q with count:=q.count-1}) rfl rfl h
   .show .inl h
theorem cu_len:∀{rs:List Row}{q:Cu},(An fl q rs).1.sure.length+(An fl q rs).1.ak.length<=q.sure.length+q.ak.length+rs.length:=by
 intro l9
 induction l9 with
 |nil=>intro q;show bC _
 |cons r rs ih =>
  intro q;have st:∀{q2:Cu},q2.sure=q.sure->q2.ak=q.ak->(An fl (q2.step r) rs).1.sure.length+(An fl (q2.step r) rs).1.ak.length<=q.sure.length+q.ak.length+(r::rs).length:=λ{q2}e1 e2=>by
   show aC (ih) ?_;simp only[cK]
   induction r using Option.casesOn with
   |none=>change(q2.sure++q2.ak).length+0+_<=_;simp only[aV,e1,e2];show lin 0x4caa3908321cad21043 7 tt
   |some v=>change q2.sure.length+(q2.ak++[v]).length+_<=_;rw[aV,e1,e2];change _+(_+1)+_<=_;show lin 0x26551c84190e551043 7 tt
  simp only[Bn]
  cases r.isNone==fl
  .show st (q2:=q) rfl rfl
  .cases q.count==0
   .show st (q2:={q with count:=q.count-1}) rfl rfl
   .show gY _ _
theorem Y1(wo:WOk w)(fw:Fw w bk0 D b)(hD:D.length<=22)(hc:0<=c):(runD ((DS.new w.blocks).ai fl c) 0 D).1=(Bm fl {c,[],[]} 0 D).1/\PtE w b fl c D (runD ((DS.new w.blocks).ai fl c) 0 D).2 (Bm fl {c,[],[]} 0 D).2.sure (Bm fl {c,[],[]} 0 D).2.ak:=by
 apply Y;have cs:CuS fl ((DS.new w.blocks).ai fl c) [] {c,[],[]}:=by
  apply @CuS _ Y _ _;rcases fl
  .show{hc,⟨rfl,rfl⟩,rfl,rfl}
  .show{hc,⟨rfl,rfl⟩,rfl,rfl}
 obtain⟨q1,q2,q3,q4⟩:=Xq (D:=D) (i:=0) cs;have hr:=fw.rows wo (t:=0) (bi0 wo) (lin 0x4db614e41c9091d0d81 9191 tt hD) λi a=>.inl ⟨rfl,rfl⟩;have rl:=L1 λd hd=>(hr d hd).2;have rk:∀r∈D.flatMap (·.rows),En w.blocks r:=λr h=>by
  obtain⟨d,hd,h⟩:=oj.mp h;show(hr d hd).1 r h
 have I0:=(W6 (wo.bl)).ai (fl:=fl) (c:=c);obtain⟨s',I',b',es⟩:=DI.runX (b:=700) (rs:=D.flatMap (·.rows)) (I0.1.less (by show lin 0x9b6c49623a20a7e8e4835e702 9965641703 tt hD rl)) ((I0.2.1▸rk));have cl:=cu_len (fl:=fl) (rs:=D.flatMap (·.rows)) (q:={c,[],[]});have cm:=λp=>cu_mem (fl:=fl) (rs:=D.flatMap (·.rows)) (q:={c,[],[]}) (p:=p);rw[<- Tf (i:=0)]at es;rw[<- q4]at cl cm;show{q1,q2,q3,?_,?_,λps=>?_,?_,?_,λp hp=>?_,(Vd wo fw q4)}
 .rcases es with e|e<;>rw[e]<;>show b'.trans I0.2.1
 .rcases es with e|e<;>simp only[e]
  .show I'.ok
  .show I'.dead
 .rcases es with e|e<;>rw[e]
  .show I'.aft.1
  .show(I'.aft (ps:=ps)).1
 .have cl:_+_<=0+0+_:=cl;show lin 0x136d912c474834c872b5a411252ce044 0xa4a05ff9fe7 tt hD rl cl
 .have cl:_+_<=0+0+_:=cl;show lin 0x136d912c474834c872b5a420a658e044 0xa4a05ff9fe7 tt hD rl cl
 .rcases cm p hp with h|h
  .show absurd h aD
  .show(rk _ h).1
theorem Qm{o:Option aK}{vs:List Oct}{m:Mp}(as:AsL H v o (ysL vs))(hz:vs.length<=100)(hr:∀p∈m,0<=p.1/\p.1<vs.length)(hK:∀a,H a=none->K ↑a (H.set a (.list (ysL (wrV vs (m.map some)))))):WC F.u ↑619 [v,.list (unV m)] H K:=by
 rw[show .list (unV m)=D7 (m.map some) by delta unV D7;simp only[dB];rfl];show Ii as hz (λp hp=>?_) hK;apply Y;obtain⟨q,hq,e⟩:=aE.mp hp;injection e with e;subst e;show hr _ hq
theorem Ti:∀{v:List Oct},(∀o∈v,o.length=16)->(∀p,some p∈rs->p.2.length=16)->∀o∈wrV v rs,o.length=16:=by
 induction rs with
 |nil=>show λh a=>h
 |cons r rs ih=>
  intro v h hr
  induction r using Option.casesOn with
  |none=>show ih h λp hp=>hr p (.tail _ hp)
  |some q=>show ih (v:=v.set q.1.toNat q.2) (λo ho=>(List.mem_or_eq_of_mem_set ho).elim (h o) λe=>e▸hr q (.head _)) λp hp=>hr p (.tail _ hp)
theorem fx_len(bi:BI w b t)(hg:∀k,K2 k->cnt w k came<(b.a9 k).length)(hv:∀o∈vs,o.length=16):∀o∈fxV w b.a9 came vs 2,o.length=16:=by
 have row:∀k,K2 k->∀p,some p∈(fxR w b.a9 came k).map some->p.2.length=16:=λk hk p hp=>by
  obtain⟨q,hq,e⟩:=aE.mp hp;injection e with e;subst e;rcases aS.mp hq with e8|hq
  .subst e8;rfl
  .skip;obtain⟨n,a,e9⟩:=aE.mp hq;rw[<- e9];show Pa λp hp=>?_;simp only[dI,bE (hg k hk)]at hp;show(((bi k hk).sk _ (gU (hg k hk))).k p hp).2
 show Ti (Ti hv (row 0 (.inl rfl))) (row 1 (.inr rfl))
theorem or_b{P:Prop}(e:t=false)(h:P):bif t then Q else P:=by rw[e];show h
theorem Vi(hT:(633,.tab)∈F.cl/\(640,.tab)∈F.cl)(wo:WOk w)(fw:Fw w bk0 D b)(hD:D.length<=22)(bi:BI w b t)(ht:t<=45)(B:BH H bx N (b.objs x++((da,dObj D)::L)))(hN:0<=N/\N<=10^4)(hc:0<=c)(hK:∀H' N',N'<=N+1000->BH H' bx N' (b.objs x++((da,dObj D)::L))->K (.bool true) H'):
  WC F.u.u.u.u.u.u.u.u.u.u.u.u.u.u.u ↑679 [↑bx,w.val,↑da,↑x.s,.bool fl,.int c] H K:=by
 apply Y;have wb:=wo.bl;obtain⟨bo,h0,bok⟩:=B;show Aw 69 rfl rfl ?_;show(let K0:=_;let K5:=_;(?_:@evS K0 _ _ _ _ K5 _));show G2.aa (w:=.int w.blocks) .fro rfl (Oh (F:=F.u.u.u.u.u.u.u.u.u.u.u.u.bd) h0 (cO (cF ‹_›)) λy H1 h1=>?_);show Jk (F:=F.u.u.u.u.u.u.u.u.u.u.u.u.bd) h1 hc λH2 h2=>?_;have hd2:H2 da=some (dObj D):=h2.get 15 rfl;have hr:=fw.rows wo (t:=0) (bi0 wo) (lin 0x4db614e41c9091d0d81 9191 tt hD) λi g=>.inl ⟨rfl,rfl⟩;obtain⟨eat,E⟩:=Y1 (fl:=fl) wo fw hD hc;show WS1.assign (λg g=>rfl) (λg=>rfl) (λg g=>rfl) (exE (ex:=.call ↑626 ['C','E','F']) Al rfl (cut_ok (F:=F.u.u.u.u.u.u.u.u.u.u.u.u.u.bd) hd2 {(aC ‹_› (nle rfl)),λd hd=>aC (hr d hd).2 (nle tt)} λH3 a x3 ha h3=>WG.nms (is:=[7,8,9]) rfl rfl rfl rfl {_,rfl,?_}));have h4:HL H3 (((DS.new w.blocks).ai fl c).objs y++(((a,.list (unV (Bm fl {c,[],[]} 0 D).2.ak))::(b.objs x++((da,dObj D)::L)))++[(bx,bo)])):=(h2.more x3 ha h3).perm perm_middle.symm;have I0:=(W6 wb).ai (fl:=fl) (c:=c);have lt0:((DS.new w.blocks).ai fl c).ah=[]:=by unfold DS.ai;rcases fl<;>rfl
 generalize (Bm fl {c,[],[]} 0 D).2.ak=ak at E h4 ⊢;generalize (Bm fl {c,[],[]} 0 D).2.sure=sure at E ⊢;rw[<- eat];have zl:∀{m:Mp},(unV m).length=m.length:=aA ..;show run_ok (F:=F.bd) (m:=700) (ja _ (aG _ (.head _))) hT wo fw hD {hN.1,(bH (cL ‹_›) '#')} (BH.jn h4 bok) (I0.1.less (lin 0x136d853f4724c47435e701 301965287 tt hD)) lt0 I0.2.1 λH4 r=>?_;apply Y;obtain⟨u,bo4,h5,bok4⟩:=r;generalize (runD ((DS.new w.blocks).ai fl c) 0 D).2=s at E h5;generalize (runD ((DS.new w.blocks).ai fl c) 0 D).1=at_;show or_b (bne_self_eq_false _) ?_;show Aa.at h5 0 1 rfl rfl Aj (A8 16) rfl (W2.neL (o:=some u) (o':=some a) (xs:=unV s.ar) (ys:=unV ak) {rfl,h5.get 4 rfl} {rfl,h5.get 5 rfl} Vh λt ht=>?_);show or_b (by induction t using Bool.casesOn with
  |false=>rfl
  |true=>show absurd (congrArg unV E.u) (ht.mp rfl)) ?_
 apply @evS _ _ _ _ _ Y _;have ll:=E.ll;show WC.bg (o:=some a) (xs:=unV ak) {rfl,h5.get 5 rfl} (by rw[zl];show aC ‹_› (nle rfl)) ?_;rw[zl];show So (F:=F.u.u.u.u.u.u.u.u.u.u.u.u.bd) (BH.jn h5 bok4) (lin 0x3d80228fd2b0b64a59c0b00651fb2a0656d949 10536 tt hN ll) (lin 0x1296702f67d1ca05940d81 8618241 tt ll) λps H5 rise B5=>?_;obtain⟨bo5,h6,bok5⟩:=B5.spl;have hl6:H5 a=some (.list (unV ak)):=h6.get 5 rfl;show WE.co (WCo.n1 (j:=1) (ex:=.sub 'C' 'B') (λsq i xs H'=>(sq=.vals none (ps.map .int))/\(xs=unV ((ps.take i).filterMap λn=>ak[n.toNat]?))/\(H'=H5)) tt rfl rfl rfl (λg g=>rfl) ?_ (λsq i xs H' j=>?_) (λsq i xs H' v j e=>?_) λsq i xs H' j e=>?_)
 .show WI.ex (ex:=.loc 10) rfl {none,_,.d,.vals,rfl,rfl,rfl}
 .apply Y;obtain⟨rfl,rfl,rfl⟩:=j;show{trivial,?_};rw[zl];have h1:=iD (λn:Int=>ak[n.toNat]?) (ps.take i);have h2:=congrArg ql rise.fil;have h3:=dZ (λ(j:Nat)=>decide ((j:Int)∈ps)) (cG ak.length);rw[aA]at h2;rw[dR]at h3;rw[dT]at h1;show lin 0x4a59c075220ac64483a448c49d045 449161479 tt ll h1 h2 h3 (dC _ _)
 .obtain⟨rfl,rfl,rfl⟩:=j;apply @ev _ _ _ _ _ _ Y;obtain⟨n,en,rfl⟩:=Bt e;have hn:=rise.lt n (aX en);obtain⟨p,ep⟩:∃p,ak[n.toNat]?=some p:={_,bE (lin 0xf6d045616ce2d02a104a 11560 tt hn (bD hn.1))};show G2.list (w:=.tup [.int p.1,.bytes p.2]) ⟨rfl,hl6⟩ hn.1 (lin 0x1296702f6d025616cd0f847e949 10535 tt ll hn) (by unfold unV;rw[bK,ep];rfl) {rfl,?_,rfl};rw[cE,en,fN,show(some n).toList.filterMap (λn=>ak[n.toNat]?)=[p] by rw[show(some n).toList=[n] from rfl,iE (f:=λn:Int=>ak[n.toNat]?) ep];rfl];unfold unV;rw[aJ];rfl
 apply @binV _ _ _ _ _ Y;obtain⟨rfl,rfl,rfl⟩:=j;have he:=aO.mp e;rw[aA]at he;simp only[bT he,<- rise.picks];have sl:=E.sl;have pl:=Mj (u:=ak) (ns:=ps) (i:=ak.length);show W2.cat .d .d (by simp only[zl,zl];show lin 0x4a59c1a658e0523127521043 337159 tt ll sl pl) ?_;rw[show unV sure++unV (picks ak ps ak.length)=unV (sure++picks ak ps ak.length) by unfold unV;simp only[aJ]];have psub:(picks ak ps ak.length).Sublist ak:=by have:=Mu (u:=ak) (ps:=ps) (i:=ak.length);rwa [lM]at this
 have PA0:=E.pa _ psub;have pr:∀p∈sure++picks ak ps ak.length,0<=p.1/\p.1<w.blocks:=λp hp=>E.sr p ((aZ.mp hp).elim (aU _) λh=>aG _ (psub.subset h));have cl:(sure++picks ak ps ak.length).length<=1000:=by rw[aV];show lin 0x129670699638148c49fa3921043 337159 tt ll sl pl
 have ea:(s.aft ps).ah=lay [] (sure++picks ak ps ak.length):=by rw[Bp,<- E.k,<- E.u];rfl
 generalize sure++picks ak ps ak.length=came at PA0 pr cl ea ⊢;have vw0:(bO w.blocks.toNat [.bytes (bO (16:Int).toNat 0)]).flatten=ysL (bO w.blocks.toNat Bo):=by
  generalize w.blocks.toNat=n
  induction n with
  |zero=>rfl
  |succ n ih=>simp only[eH,gZ,ih,eH];rfl
 have vn:(DS.new w.blocks).view=bO w.blocks.toNat Bo:=by
  change(cG w.blocks.toNat).map (λg=>Bo)=_;rw[List.map_const',dR]
 have vs2:(s.aft ps).view=wrV (bO w.blocks.toNat Bo) (came.map some):=by
  simp only[<- vn];show Pb (s0:=DS.new w.blocks) E.bl ea pr
 show WC.b9 (dte tt) (dte tt) {(nle tt:1<=2^20),.data (G2.aa (w:=.int w.blocks) .fro rfl (W2.rep (nle tt) (by change 1*w.blocks.toNat<=_;show lin 0x7b3056145b716814e828e849 11560 tt wb (bD (bH '#' wb.1))) (lin 0x3d982b0a2dbda1408fd2b4a5e85023f48 9699623 tt wb) ?_))};rw[vw0];show Qm (F:=F.u.u.u.u.u.u.u.u.u.u.u.u.u.bd) (o:=none) (vs:=bO w.blocks.toNat Bo) .d (by rw[hZ];show lin 0xf660ac28b6e2d029c049 11560 tt wb (bD (bH '#' wb.1))) (λp hp=>by rw[hZ];have:=pr p hp;show lin 0xf698ac2d994099eda04ac2d91 345243975 tt this (fR _)) λva hva=>?_;apply @evS _ _ _ _ _ Y _;simp only[<- vs2];have h7:=(h6.new hva (.list (ysL (s.aft ps).view))).perm perm_middle.symm;have D2:=E.aft ps;have bl2:(s.aft ps).blocks=w.blocks:=E.bl;have vl:(s.aft ps).view.length=w.blocks.toNat:=by simp only[Dl,bl2]
 have fz:(s.aft ps).view.flatten.length<=2^20:=by rw[Hl D2.vlen,vl];lia
 have hg:∀k,K2 k->cnt w k came<(b.a9 k).length:=λk hk=>(PA0 k hk).1;show Av.at h7 0 1 rfl rfl Aj (Ao 23 rfl) rfl (Oj (F:=F.u.u.u.u.u.u.u.u.u.u.u.bd) (x:={y with u:=u}) h7 E.ok (λn hn=>by rw[E.u];show rise.lt n hn) ?_ λy2 H8 h8=>?_)
 .have h2:=congrArg ql rise.fil;have h3:=dZ (λ(j:Nat)=>decide ((j:Int)∈ps)) (cG ak.length);simp only[aA]at h2;simp only[dR]at h3;show lin 0x4a59c1ac2248c4901547e843 370983 tt ll h2 h3
 have hv8:H8 va=some (.list (ysL (s.aft ps).view)):=h8.get 10 rfl;show Av.at h8 0 1 rfl rfl Aj (Ao 24 rfl) rfl (Kh (F:=F.u.u.u.u.u.u.u.u.u.u.u.u.u.bd) h8 D2.ok D2.blocks.1 fz ?_);apply @ev _ _ _ _ _ _ Y;show .blt "bytes.join" (Gm.bytes Cf Eh) (WC.join (o:=some va) (bs:=(s.aft ps).view) ⟨rfl,hv8⟩ (by rw[vl];lia) fz (W2.neY ?_));show or_b (bne_self_eq_false _) ?_;have nva:∀{a o},H' a=some o->a≠va:=λe y=>by simp only[y,hva]at e;rcases e
 rw[<- AH.d8 hv8];have hsk5:∀k,K2 k->H' (x.sk k)=some (.list (stV (b.a9 k)))/\H8 (x.sk k)=some (.list (stV (b.a9 k))):=λk hk=>by
  rcases hk with rfl|rfl
  .show{h6.get 14 rfl,h8.get 20 rfl}
  .show{h6.get 15 rfl,h8.get 21 rfl}
 show fix_ok (F:=F) (b:=b) wo (h8.get 15 rfl) (λk hk=>(hsk5 k hk).2) (λk hk=>nva (hsk5 k hk).1) (nva (h6.get 9 rfl)) vl cl hg (λk hk=>by have:=(bi k hk).st.2;show lin 0x242de0935123a20a7e8e042 304103 tt ‹_› this) λu13 u14 u15 u16=>?_;have fl2:=fx_len bi hg D2.vlen;have fll:(fxV w b.a9 came (s.aft ps).view 2).length=w.blocks.toNat:=Dg.trans (Dg.trans vl);have R:=Ql (s:=s.aft ps) wo PA0 ea ea rfl rfl rfl bl2;generalize fxV w b.a9 came (s.aft ps).view 2=vF at fl2 fll R ⊢;have h9:=h8.set 10 (.list (ysL vF)) rfl;have h9:HL (H8.set va (.list (ysL vF))) ((s.aft ps).objs y2++(s.objs {y with u:=u}++((va,.list (ysL vF))::((a,.list (unV ak))::((b.objs x++((da,dObj D)::L))++[(bx,bo5)]))))):=h9;show .blt "bytes.join" (Gm.bytes Cf Eh) (WC.join (o:=some va) (bs:=vF) {rfl,if_pos rfl} (by rw[fll];lia) (by rw[Hl fl2,fll];lia) ?_);show rr_ok (F:=F.u.u.u.bd) (BH.jn (h9.sub (.append (.refl _) ((((lJ _).cons _).cons _).trans (bW ..)))) bok5) (by show{by show lin 0x1ec01147e9585b32540cadb2d89 9441 tt hN,by show lin 0x3d80228fd2b0b64a59c0b00551fb2a0656d949 10536 tt hN ll}) (D2.less (gg _ _)) (bV _) bl2 wo R λH' N' hN' B'=>hK H' N' (lin 0x252ce059232392a0656d98ac97d1c3151 9479 tt ll hN') B'
theorem BH.nn(h:BH H bx N L):0<=N:=let ⟨_,_,⟨_,_,_,_,_,h⟩⟩:=h;bH h.1 h.2
inductive RwJ(H:AH)(da:aK)(D:List Deed)(sq:Sq)(i:Nat)(xs:List V)(H':AH):Prop
 |mk(e:sq=.vals (some da) (D.map Deed.val))(hx:xs=((D.take i).flatMap (·.rows)).map rowV)(p:H'=H)
inductive RwK(H:AH)(da:aK)(D:List Deed)(sq:Sq)(i:Nat)(sq1:Sq)(k:Nat)(xs:List V)(H':AH):Prop
 |mk(d:Deed)(e:sq=.vals (some da) (D.map Deed.val))(ed:D[i]?=some d)(e1:sq1=.vals none (d.rows.map rowV))(hx:xs=((D.take i).flatMap (·.rows)++d.rows.take k).map rowV)(p:H'=H)
inductive FlcJ(H:AH)(R:List Row)(sq:Sq)(i:Nat)(xs:List V)(H':AH):Prop
 |mk(e:sq=.vals none (R.map rowV))(hx:xs=((R.take i).filter (·.isNone)).map rowV)(p:H'=H)
inductive LwJ(A:List (aK×AObj))(bx:aK)(N:Int)(c:Nat)(sl0:List (Option V))(sq:Sq)(i:Nat)(sl:List (Option V))(H:AH):Prop
 |mk(u8 u9 u10:Option V)(hs:sl=sl0++[u8,u9,u10])(e:sq=.rng 0 1 c)(M:Int)(hM:M<=N+1100*i)(h0:0<=M)(B:BH H bx M A)
def lwSt:St:=.set 9 (.cmp .Eq (.call ↑554 ['B','c']) 'b') (.set 10 (.ife 'J' 'H' (.bin .Sub (.call (.builtin "len") ['G']) 'H')) (.ite (.not (.call ↑679 ['B','D','E','F','J',(.bin .Sub 'K' (.call ↑554 ['B',(.bin .Add 'K' 'b')]))])) (.ret (.con (.bool false))) .done .done))
theorem ev_eq1(h:K (.bool (i==j)) H):ev F ns (n+1) (.con (.int j)) sl H λw H2=>dk F .Eq (.int i) w H2 K:=h
theorem Y2{ns:List (bY×aY)}{n i j:Nat}{xs:List V}(e:gs sl j=some (.list xs))(e2:gs sl i=some (.int m))(hz:xs.length<=2^40)(h:K (.int (xs.length-m)) H):ev F ns (n+3) (.bin .Sub (.call (.builtin "len") [.loc j]) (.loc i)) sl H K:=by
 change ev F ns (n+1) (.loc j) sl H λv H1=>WC F (.builtin "len") [v] H1 λv H1=>ev F ns (n+2) (.loc i) sl H1 λw H2=>binV F .Sub v w H2 K;show Dr e (WC.bg .d hz (Dr e2 h))
theorem Vj{D:List Deed}{b:Bk}{R:List Row}(hT:(633,.tab)∈F.cl/\(640,.tab)∈F.cl)(wo:WOk w)(hK:∀H',K (.bool true) H')(fw:Fw w bk0 D b)(bi:BI w b (2*i0))(B:BH H bx (N+4*i0) (b.objs {x with nk:=nk}++[(da,dObj D)]))(hDl:D.length<=21)(hi:i0<=21)(hN:N<=100)(rl:R.length<=12*D.length)(fl:nf<=R.length):
  evS F.u.u.u.u.u.u.u.u.u.u.u.u.u.u.u.bd (A9 (tst 45)).names K (.raw (Ad [5] (A7 (tst 45))) (.ret (.con (.bool true)))) (λa H'=>K .none H') [some v,some ↑bx,some (.bool wd),some w.val,some ↑da,some ↑x.s,some (.list (R.map rowV)),some (.int nf)] H:=by
 show(let K0:=_;let K5:=_;(?_:@evS K0 _ _ _ _ K5 _));have yl:∀{r:List Row},(r.map rowV).length=r.length:=aA ..;show WS1.f6 (is:=[8]) (st:=lwSt) (LwJ (b.objs {x with nk:=nk}++[(da,dObj D)]) bx (N+4*i0) (if wd=true then 2 else 1) [some v,some ↑bx,some (.bool wd),some w.val,some ↑da,some ↑x.s,some (.list (R.map rowV)),some (.int nf)]) rfl rfl (λa a=>rfl) ⋯ rfl ?_ (λsq j sl H' q=>?_) (λsq j sl H' u q e=>?_) λsq j sl H' q e=>?_
 .apply @WI _ _ _ _ Y;show WI.rg (i:=16) (ex:=.ife 'C' 'c' 'b') rfl (λa a=>rfl) rfl (bifB (λe=>{2,rfl,dte tt,.rng,_,⋯,none,none,none,rfl,by rw[e];rfl,_,?_,?_,B}) λe=>{1,rfl,dte tt,.rng,_,⋯,none,none,none,rfl,by rw[e];rfl,_,?_,?_,B})
  .rw[dP,mH,ci];show bM _
  .show B.nn
  .rw[dP,mH,ci];show bM _
  .show B.nn
 .obtain⟨u8,u9,u10,rfl,rfl,a⟩:=q;show eE
 .apply @evS _ _ _ _ Y _ _;obtain⟨u8,u9,u10,rfl,rfl,M,hM,h0,B⟩:=q;apply @evS _ _ _ _ _ Y _;obtain⟨hj,rfl⟩:=Dd e;have hj2:j<2:=ip hj (by split<;>decide);show Bg (F:=F.u.u.u.u.u.u.u.u.u.u.u.u.u.u.bd) B (by lia) (dte tt) λd H3 d0 d1 B3=>?_;have pt:∀{many:Int},0<=many->many<=400->evS F.u.u.u.u.u.u.u.u.u.u.u.u.u.u.u.bd (A9 (tst 45)).names K (.ite (.not (.call ↑679 ['B','D','E','F','J',(.bin .Sub 'K' (.call ↑554 ['B',(.bin .Add 'K' 'b')]))])) (.ret (.con (.bool false))) .done .done) (LwJ (b.objs {x with nk:=nk}++[(da,dObj D)]) bx (N+4*i0) (if wd=true then 2 else 1) [some v,some ↑bx,some (.bool wd),some w.val,some ↑da,some ↑x.s,some (.list (R.map rowV)),some (.int nf)] (.rng 0 1 (if wd=true then 2 else 1)) (j+1)) (ss (ss (sts ([some v,some ↑bx,some (.bool wd),some w.val,some ↑da,some ↑x.s,some (.list (R.map rowV)),some (.int nf)]++[u8,u9,u10]) [8] [.int (0+(j:Int)*1)]) 9 (.bool (d==1))) 10 (.int many)) H3:=λ{many}m0 m1=>by
   show(let K0:=_;let K4:=_;let K5:=_;(?_:@evS K0 _ _ _ K4 K5 _));show Bg (F:=F.u.u.u.u.u.u.u.u.u.u.u.u.u.u.bd) B3 (by lia) (lin 0xc2d98c870af67d1ca95952dc8 9699623 tt m0 m1) λc H4 c0 c1 B4=>?_;show Vi (F:=F.bd) (x:={x with nk:=nk}) (L:=[]) hT wo fw (aC ‹_› (nle rfl)) bi (lin 0x135d85216f048e841 9191 tt hi) B4 (by lia) (lin 961330490518928 263 tt c1) λH' N' hN' B'=>{_,_,_,rfl,rfl,N',?_,B'.nn,B'};lia
  show ev_eq1 ?_;apply @evS _ _ _ _ _ Y _;with_reducible show Kr (Vz ?_)
  show Dr (n:=58) rfl ?_;show Xj (bifB (λa=>?_) λa=>?_)
  .show Dr (n:=58) rfl ?_
   with_reducible show pt (cr _) (by lia)
  .show Y2 (ns:=(A9 (tst 45)).names) (n:=56) (i:=7) (j:=6) (xs:=R.map rowV) rfl rfl (by rw[yl];show lin 0x26bb12588e88290a047e842 9965641703 tt hDl rl) ?_;rw[yl]
   with_reducible show pt (by lia) (by lia)
 .clear hT wo fw bi hDl hi hN rl fl yl e;apply Y;obtain⟨u8,u9,u10,rfl,rfl,M,hM,h0,B⟩:=q;show{_,rfl,hK _}
theorem Pd(hT:(633,.tab)∈F.cl/\(640,.tab)∈F.cl)(wo:WOk w)(hK:∀H',K (.bool true) H'){H:AH}{N:Int}{x:BkA}{da:aK}{D:List Deed}{b:Bk}(P:PlM H w bx N x da [] i0 D b nk)(hi:i0<=21)(hN:N<=100):evS F.u.u.u.u.u.u.u.u.u.u.u.u.u.u.u.bd (A9 (tst 45)).names K (.raw (Ad [3] (A7 (tst 45))) (.set 7 (.call (.builtin "len") [(.raw (B0 [1] (stE 0 (Ad [4] (A7 (tst 45))))))]) (.raw (Ad [5] (A7 (tst 45))) (.ret (.con (.bool true)))))) (λa H'=>K .none H') [some v,some ↑bx,some (.bool wd),some w.val,some ↑da,some ↑x.s] H:=by
 apply @evS Y _ _ _ _ _ _;have hDl:=aC P.dl hi;have fw:=P.c.fw;have hr:=fw.rows wo (t:=0) (bi0 wo) (lin 0x4d7614e41c9091d0d81 9191 tt hDl) λi a=>.inl ⟨rfl,rfl⟩;have B:=P.B;have hd:=B.tl.get 10 rfl;have rl:=L1 λd hd=>(hr d hd).2;have rt:∀{i:Nat},((D.take i).flatMap (·.rows)).length<=12*21:=λ{i}=>by
  have:=L1 (D:=D.take i) λd hd=>(hr d (mS hd)).2;simp only[dT]at *;show lin 0x135d8d2c4744148c49623b5d843 0xa47fe93fd27 tt hDl this (dC _ _)
 show WS1.coL (j:=6) rfl rfl tt rfl (WCo.n2 (j:=1) (j1:=2) (ex:=.loc 2) (RwJ H da D) (RwK H da D) tt rfl rfl rfl (λa a=>rfl) (λa a=>rfl) rfl (λa=>rfl) ?_ (λsq i xs H' j=>?_) (λsq i sq1 k xs H' j=>?_) (λsq i xs H' v j e=>?_) (λsq i xs H' v j e sq1 k ys H3 u j1 e1=>?_) (λsq i sq1 k xs H' j e=>?_) λsq i xs H' j e=>?_)
 .apply @WI _ _ _ _ Y;show WI.ex (ex:=.loc 4) rfl {some da,_,⟨rfl,hd⟩,.vals,rfl,rfl,rfl}
 .clear wd hT wo hK N x b nk i0 P hi hN hDl fw hr B rl rt;obtain⟨rfl,rfl,rfl⟩:=j;show hd
 .clear v wd hT wo hK N x b nk i0 P hi hN hDl fw B hd rl;apply Y;obtain⟨d,rfl,ed,rfl,rfl,rfl⟩:=j;show{trivial,?_};have h1:=(hr d (aX ed)).2;have h2:=rt (i:=i);simp only[aA,aV,dT];show lin 0x966c69623b5d8523127521043 337159 tt h1 h2 (dC _ _)
 .clear hT wo hK N b nk i0 P hi hN hDl fw hr B hd rl rt;obtain⟨rfl,rfl,rfl⟩:=j;show(let K1:=_;let K4:=_;(?_:@WI _ K1 _ _ K4));have e:(D.map Deed.val)[i]?=some v:=e;rw[bK,bF]at e;obtain⟨d,ed,rfl⟩:=e;show WI.ex (ex:=.sub 'B' 'f') rfl (G2.tup (w:=D7 d.rows) (dte tt) (dte tt) rfl {none,_,.d,.vals,d,rfl,ed,rfl,by simp only[p9,bG],rfl})
 .apply @ev _ _ _ _ Y _ _;obtain⟨e9,a,a⟩:=j;rw[e9];clear hT wo hK N b nk i0 P hi hN hDl fw hr B hd rl rt e;obtain⟨d,a,ed,rfl,rfl,rfl⟩:=j1;apply @ev _ _ _ _ _ _ Y;obtain⟨r,er,rfl⟩:=Hk e1;show{d,rfl,ed,rfl,?_,rfl};rw[cE,er,<- aH];show(aJ (f:=rowV) (l₂:=[r])).symm
 .clear v wd hT wo hK N x b nk i0 P hi hN hDl fw hr B hd rl rt;obtain⟨d,rfl,ed,rfl,rfl,rfl⟩:=j;have he:=aO.mp e;rw[aA]at he;show{rfl,?_,rfl};simp only[bT he,cE,ed,fB];show congrArg (pe rowV) (congrArg (_++·) (bG _).symm)
 obtain⟨rfl,rfl,rfl⟩:=j;have he:=aO.mp e;rw[aA]at he;rw[bT he];show{_,rfl,?_};generalize D.flatMap (·.rows)=R at rl;have yl:∀{r:List Row},(r.map rowV).length=r.length:=aA ..;show WE.co (WCo.f1 (j:=1) (ex:=.loc 1) (cx:=.cmp .Is 'B' (.con .none)) (FlcJ H' R) tt rfl rfl rfl rfl (λa a=>rfl) ?_ (λsq j xs H' q=>?_) (λsq j xs H' v q e=>?_) λsq j xs H' q e=>?_)
 .show WI.ex (ex:=.loc 6) rfl {none,_,.d,.vals,rfl,rfl,rfl}
 .clear wd hT wo hK x da b nk i0 hi fw hr rt e P B hd;obtain⟨rfl,rfl,rfl⟩:=q;show{trivial,?_};have h1:=dZ (λr:Row=>r.isNone) (R.take j);simp only[dT]at h1;rw[yl];show lin 0x9aec89623a41a44148c49d044 0xb5251ff9fe7 tt hDl rl h1 (dC _ _)
 .obtain⟨rfl,rfl,rfl⟩:=q;obtain⟨r,er,rfl⟩:=Hk e;clear hT wo hK N b nk i0 hi hN hDl fw hr rt he rl yl P B hd e;induction r using Option.casesOn with
  |none=>apply @ev _ _ _ _ _ _ Y;show W2.isNone {rfl,by simp only[cE,er,dJ,aJ];rfl,rfl}
  |some p=>show W2.isNone {rfl,by simp only[cE,er,dJ,aJ];show(bG _).symm,rfl}
 apply @evL Y _ _ _;obtain⟨rfl,rfl,rfl⟩:=q;have he:=aO.mp e;rw[yl]at he;rw[bT he];have fl:=dZ (λr:Row=>r.isNone) R;show WC.bg .d (by rw[yl];show lin 0x135d8d2c47462488290a047e843 353563025383 tt hDl rl fl) ?_;show yl▸Vj hT wo hK fw P.bi B hDl hi hN rl fl
theorem law_ok{v:V}{o:Option aK}{cs:List Int}(hT:(633,.tab)∈F.cl/\(640,.tab)∈F.cl)(as:AsL H v o (cs.map .int))(hz:cs.length<=100)(hK:∀H',K (.bool true) H'):WCc F.u.u.u.u.u.u.u.u.u.u.u.u.u.u.u.u ↑684 [v] H K:=by
 show Nk 70 rfl rfl ?_;apply @evS Y _ _ _ _ _ _;show WS1.swp (is:=[1,2]) (ex:=.tup [.call ↑547 ['A'],.cmp .Gt (.call (.builtin "len") ['A']) 'b']) rfl rfl ?_;apply @ev _ _ _ _ _ _ Y;show box_ok (F:=F.u.u.u.u.u.u.u.u.u.u.u.u.u.u.bd) (l:=[]) as hz {λa h=>(absurd h aD),.nil} λbx H1 e1 B1=>?_;show WC.bg (X9 as e1) (by rw[(aA ..)];show aC ‹_› (nle rfl)) {(nle tt:2<=2^20),rfl,_,rfl,?_};rw[(aA ..)];apply @evS _ _ _ _ _ Y _;generalize hwd:decide ((1:Int)<cs.length)=wd;show V4 (F:=F.u.u.u.u.u.u.u.u.u.u.u.u.u.bd) B1 (dte tt) λw H2 N2 wo hN2 B2=>?_;have n2:=B2.nn;show WS1.assign (λa a=>rfl) (λa=>rfl) (λa a=>rfl) (exE (ex:=.call ↑612 ['B','D',.ife 'C' (.bin .Add 'i' (.call ↑554 ['B','g'])) 'h']) Al rfl (bifB (λe=>?_) λe=>?_))
 .show Bg (F:=F.u.u.u.u.u.u.u.u.u.u.u.u.u.u.bd) B2 (bH ‹_› '#') (dte tt) λd H3 d0 d1 B3=>Sj (F:=F.u.u.u.u.u.u.u.u.u.u.bd) B3 (lin 0x325fb1585b3d80228fda95952d88 9666856 tt hN2 n2) (lin 0x30b669b657b1bb9151b648a8ddc8 9699623 tt d0 d1) wo λH' x da D b nk N' P hN'=>WG.nms (is:=[4,5]) ⋯ rfl rfl rfl {_,rfl,Pd hT wo hK P (lin 0x69b65748a8dd029aee48d849 10503 tt d1 (bD (lin 856958863728008 263 tt d0))) (lin 0x325fb1995a98acc150 9479 tt hN2 hN')}
 .show Sj (F:=F.u.u.u.u.u.u.u.u.u.u.bd) B2 {‹_›,bH ‹_› '#'} (dte tt) wo λH' x da D b nk N' P hN'=>WG.nms (is:=[4,5]) ⋯ rfl rfl rfl {_,rfl,Pd hT wo hK P (nle tt) (bH ‹_› (bH (Int.add_le_add_right ‹_› _) '#'))}
end
section
theorem Tj{R:aW->Prop}(hz:s.asleep)(hg:s.heap.Ns cV m)(hf:m name=some f)
  (h:Ae (aQ pw w) lY (.call f {vs,[]}) (λr s'=>r=.ok (.ret v)/\R s'/\js s'.gens=false) s) :
  ∃n s' s'',runN (pD iF) pw w n s (oH name vs)=.halted (.done (.ret v)) s'/\schedN (pD iF) pw w n (.single s (oH name vs))=.halted (.done (.ret v)) s'/\s'.forget=s''.forget/\R s'':=by
 apply Y;have h':Sem.wp (aQ pw w) {.builtin "claim.caller" {},none,none,[],none} (oH name vs).cur (Sem.finPost (aQ pw w) {.builtin "claim.caller" {},none,none,[],none} λr s'=>(r=.ok (.ret v)/\R s')/\js s'.gens=false) (λe b s'=>(Except.error e=qq (Flow.ret v)/\R s')/\js s'.gens=false) default s:=by
  apply @PySem.Sem.wp _ _ _ _ Y _ _ _;show je _ _ _ (λfin p s' hp=>?_) (λb b b x=>x) default s ((show A2 (aQ pw w) lY (oH name vs).cur (λfin s'=>fin=.done (.ret v)/\R s'/\js s'.gens=false) _ s from ?_) _ default caller_in {rfl,λx h=>absurd h aD})
  .rw[hp.1];show{{rfl,hp.2.1},hp.2.2}
  show(let K4:=_;let K5:=_;(?_:@A2 _ _ _ _ K4 K5 _));show A0 (lf (wpAny_nsGet hg ?_));rw[hf];show A0 (Cg (Be h λr s' hr=>?_));obtain⟨rfl,hr⟩:=hr;show A1 ⟨rfl,hr⟩
 obtain⟨n,r,s₁,s₂,h1,h2,h3,rfl,h4⟩:=wp_halts_full hz h';show⟨n,s₂,s₁,h2,h1,h3,h4⟩
def objFs(o:jh):Array aL:=match o.data with
 |.fields vs=>vs
 |_=>#[]
theorem O1(e:h.get? b=some o)(h1:b≠633)(h2:b≠640):(hideAll h [633,640]).get? b=some o:=hideAll_get _ e λm=>by
 rcases aS.mp m with q|m
 .show h1 q
 .show h2 (aP.mp m)
theorem kFrag_not(P:g7):(Am P).lookup 633=none/\(Am P).lookup 640=none:={⋯,⋯}
theorem kTab(P:g7):(∃vs,(Am P).lookup 637=some {cls:=.type "code",data:=.fields vs}/\vs[11]?=some ↑633)/\∃vs,(Am P).lookup 644=some {cls:=.type "code",data:=.fields vs}/\vs[11]?=some ↑640:=
 {{objFs (kO637 P),⋯,⋯},{objFs (kO644 P),⋯,⋯}}
theorem L2{w:gE}(K:i8 (L6 w.params) h){o:jh}(e:(Am w.params).lookup a=some o):h.get? a=some o/\a≠633/\a≠640:=by
 have h1:a≠633:=λq=>by rw[q]at e;show absurd e.symm (aF _)
 have h2:a≠640:=λq=>by rw[q]at e;show fn e
 show{K a o ?_,h1,h2};change(match a==633 with|true=>_|false=>match a==640 with|true=>_|false=>(Am w.params).lookup a)=some o;rw[beq_eq_false_iff_ne.mpr h1,beq_eq_false_iff_ne.mpr h2];show e
theorem Vk{vs:List aL}{cs:List Int}(K:i8 (L6 w.params) s.heap)(lim:s.heap.NoLimit)(gens:s.gens = #[])
  (hl:s.heap.get? l=some {cls:=.type "list",data:=.seq vs.toArray}) (hv:∀P,VRs P (cs.map .int) vs) (hz:cs.length<=100) :
  Ae (aQ pw w) lY (.call ↑684 {[↑l],[]}) (λr s'=>r=.ok (.ret (.bool true))/\OldK s.heap s'.heap/\s'.os=s.os/\s'.gens = #[]) s:=by
 apply @Ae _ _ _ Y _;have t1:s.heap.get? 633=some (nM #[]):=K 633 _ rfl;have t2:s.heap.get? 640=some (nM #[]):=K 640 _ rfl;have lim':(hideAll s.heap [633,640]).NoLimit:=by
  obtain⟨mc,⟨o,es,ep,e,r⟩,n⟩:=lim;show{mc,{o,es,ep,O1 e '#' '#',r},n}
 let g:Gl:={w,hideAll s.heap [633,640],s.os,λa o e=>(L2 K e).elim λe y0=>y0.elim λh1 h2=>O1 e h1 h2,lim'};let F:Fx:={g,0,NX,[(633,.tab),(640,.tab)],[],false,none};let P:PH:=λa=>if a=633\/a=640 then some .tab else if a=l then some (.fro (.list (cs.map .int))) else none;have tab:∀{a},s.heap.get? a=some (nM #[])->PR g P s.heap a .tab:=λe=>{#[],e,trivial,λpos c m=>absurd m.symm (aF _)};have r:Rel g (λd=>none) P s:=by
  show{λb o e=>of_hideAll _ e,λd d e=>(absurd e.symm (aF _)),λa p e=>?_,gens,rfl};by_cases h:a=633\/a=640
  .cases (if_pos h).symm.trans e
   clear e;rcases h with rfl|rfl
   .show{λd=>hideAll_none _ (.head _),tab t1}
   .show{λd=>hideAll_none _ (.tail _ (.head _)),tab t2}
  have e:=(if_neg h).symm.trans e;rcases bB (a=l) with h|h
  .cases (if_pos h).symm.trans e
   rw[h];show{λn=>absurd rfl (n _),vs,{0,hl},hv P}
  .cases (if_neg h).symm.trans e
 have hc:∀p∈F.cl,P p.1=some p.2:=λp hp=>by
  rcases aS.mp hp with rfl|hp
  .rfl
  .obtain rfl:=aP.mp hp;rfl
 have h:=law_ok (F:=F) (H:=λd=>none) (v:=.list (cs.map .int)) (o:=none) (K:=λv d=>v=.bool true) {.head _,.tail _ (.head _)} ⟨rfl,rfl⟩ hz (λd=>rfl)
  lY [] P s [↑l] {(by decide:lY.depth+16<=900),(by decide:lY.units+20*16<=8000),rfl} rfl (λd h=>absurd h aD) hc r (.cons {l,rfl,(if_neg λh=>h.elim (λq=>by rw[q,t1]at hl;show nomatch hl) (λq=>by rw[q,t2]at hl;show nomatch hl)).trans (if_pos rfl)} .nil)
 show Be h λr' s' h=>?_
 cases h with
 |err X H P' a k=>show k.elim
 |ok x v H P' k rv q sub=>
  subst k;obtain rfl:x=.bool true:=rv;have grown:∀{c a vs o},(Am w.params).lookup c=some {cls:=.type "code",data:=.fields vs}->vs[11]?=some ↑a->P a=some .tab->s.heap.get? a=some (nM #[])->s.heap.get? a=some o->asItWas s.heap s'.heap a o:=λhk h11 hP e0 e=>by
   apply Y;obtain⟨d,ps,e',d⟩:=q.prv _ _ (sub _ _ hP)
   cases e0.symm.trans e
   show .inr (.inl {{_,_,_,(L2 K hk).1,rfl,rfl,h11},rfl,#[],ps,rfl,by rw[e',nj]})
  have old:∀b o,s.heap.get? b=some o->asItWas s.heap s'.heap b o:=λb o e=>by
   by_cases h1:b=633
   .apply Y;subst h1;obtain⟨vs,a1,a2⟩:=(kTab w.params).1;show grown a1 a2 rfl t1 e
   by_cases h2:b=640
   .clear K lim gens hl hv hz t1 lim' g F tab r hc h H P' sub q h1;subst h2;apply Y;obtain⟨vs,a1,a2⟩:=(kTab w.params).2;show grown a1 a2 rfl t2 e
   show .inl (q.base b o (O1 e h1 h2))
  show{rfl,{old,λb o e=>?_},q.os,q.gens};apply Y;rcases old b o e with h|⟨d,d,d,d,d,h⟩|⟨d,d,⟨d,d,d,h,d⟩,d⟩
  .show⟨_,h⟩
  .show⟨_,h⟩
  .show⟨_,h⟩
theorem Y3(h:F0.toRowW.claim.pre args=true):∃cs:List Int,args=[.list (cs.map .int)]/\cs.length<=100:=by
 obtain⟨h1,h2⟩:=pre_splitW h;obtain⟨d,r,rfl,h3,h4⟩:=hasAllW_cons h1;obtain rfl:=hasAllW_nil h4;obtain⟨xs,rfl,h5⟩:=hasW_list h3;have hz:xs.length<=100:=by
  have e:oK [] (p4 dA) {args:=[.list xs]}=(match (some (n7 (!decide ((63:Int)<xs.length))):Option WData) with|some (.bool false)=>some (n7 false)|some (.bool true)=>some (n7 true)|_=>none):=rfl;have h2:(match oK [] (p4 dA) {args:=[.list xs]} with|some (.bool true)=>true|_=>false)=true:=h2;by_cases q:(63:Int)<xs.length
  .rw[e,decide_eq_true q]at h2;show aR h2
  .show lin 0x836810ff89c041 263 ⋯ q
 have key:∀ys:List WData,WShape.hasItems [] ys .int=true->∃cs:List Int,ys=cs.map .int:=λys=>by
  induction ys with
  |nil=>show λa=>{[],rfl}
  |cons y ys ih=>
   intro hy;obtain⟨i,rfl⟩:=hasW_int (hasItemsW_at hy y (.head _));obtain⟨cs,rfl⟩:=ih (by rw[hasItems_all]at hy ⊢;show(aT.mp hy).2);show⟨i::cs,rfl⟩
 clear h3 h h1 h2;obtain⟨cs,rfl⟩:=key xs h5;show{cs,rfl,by rw[aA]at hz;show hz}
theorem Tk{cs:List Int}:∀{vs:List aL},WellAll P h vs (cs.map .int)->VRs P' (cs.map .int) vs:=by
 induction cs with
 |nil=>show λw=>by rcases w;show .nil
 |cons c cs ih=>
  intro vs w
  cases w with
  |cons h r=>
   rcases h;show .cons ⟨_,rfl⟩ (ih r)
theorem Tl{cs:List Int}{vs:List aL}(w:WellAll P h vs [.list (cs.map .int)]):∃l zs,vs=[↑l]/\h.get? l=some {cls:=.type "list",data:=.seq zs.toArray}/\∀P':PH,VRs P' (cs.map .int) zs:=by
 apply Y;cases w with
 |cons h r=>
  rcases r;rcases h;show{_,_,rfl,‹_›,λa=>Tk ‹_›}
theorem Tm(P:g7):(Am P).lookup cV=some (kO3 P)/\(match (kO3 P).data with|.dict es _=>mf es "law"|_=>none)=some ↑684:={⋯,⋯}
theorem Tn(k1:F0.wellSaid=true)(hw:(oZ dA).toRowW.promised)(hch:chainsOk vw=true)(ow:opensWell pw=true)(hb:pw.bare)
  (hdef:defOf vw F0.name=some (d,kwd)) (hp:pw.theDef F0.name=some (d.params,d.body,d.scope)) (hk:kwWritten? d.params.kwonlyargs d.params.kw_defaults=some kwd):F0.Holds:=by
 have left:=λw=>W9.behind (XP:=XL vw []) (λs e=>xl_of s (aT.mp e).1) hch w;show{k1,hw,⟨hb,ow,rfl⟩,hw.witness,λw=>{(left w).1,λs' hs'=>?_}};apply Y;obtain⟨s₀,hf,hg0,s,hT,hz,hgens,hg,G,y⟩:=(left w).2 s' hs';show{s₀,hf,hg0,s,hT,λn hn=>?_,λx h=>(absurd h aD),λx h=>(absurd h aD),λargs hpre hlay ord hord=>?_}
 .obtain rfl:n=F0.name:=aP.mp hn;show pinned_of_view hg G hdef hp hk
 have hgens:=Array.eq_empty_of_size_eq_zero (beq_iff_eq.mp hgens);obtain⟨cs,rfl,hz2⟩:=Y3 hpre;obtain⟨⟨vs,s₁⟩,hlaid⟩:=li.mp (layAllW_isSome (P:=w.params) (ord:=ord) G.has _ F0.args s (pre_splitW hpre).1);obtain⟨l,zs,rfl,hl,hv⟩:=Tl (well_layAllW hord _ s _ hlaid s₁.heap λa a e=>e);have keeps:=layAllW_keeps _ _ _ hlaid;have hal:=layAllW_rest _ _ _ hlaid;obtain⟨as,hrd,hin,hold⟩:=reads_layAllW hord _ _ _ hlaid hlay s₁.heap (λa a e=>e);have hm:s.heap.nsMap cV F0.name=some ↑684:=by
  unfold Heap.nsMap;rw[(L2 (kHk.of w s y) (Tm w.params).1).1];show(Tm w.params).2
 obtain⟨n,s2,s3,hrun,hsched,hfo,hK,hos,hgn⟩:=Tj (R:=λs'=>OldK s₁.heap s'.heap/\s'.os=s₁.os/\s'.gens = #[]) (Shared.asleep_of_life hal.2.2.2 hz) (G.T.g.keeps keeps) hm
  (Be (Vk ((kHk.of w s y).keeps keeps) (G.T.nolimit.keeps keeps) (hal.1.trans hgens) hl hv hz2) λr s' h=>{h.1,h.2,leftWithCleanup_false_of_bare (AllBare.of_eq h.2.2.2)})
 obtain⟨eh,a,a,eo,a⟩:=Shared.forget_eq hfo;simp only[<- eh]at hK;show⟨_,s₁,hlaid,n,_,s2,hsched,.inl {_,rfl,λa=>rfl,{.bool true,_,[],as,.bool true,hrd.keepsK (λb o e hc=>hK.get_of_cls e hc),?_,λa=>{.nil,(λa h=>nomatch h),λa h=>nomatch h},λa a=>ident_freeW rfl rfl rfl _ _},λi h=>(absurd h.symm (aF _)),λb o hb a a a=>hK.old b o hb,λi h=>absurd h aD},
  λa i x hx=>by rw[hgens]at hx;simp at hx,λh=>(aR h),congrArg Life.seen ((runN_life _ _ _ hrun).trans hal.2.2.2),Shared.rest_eq ((eo.trans hos).trans hal.2.2.1)⟩
 change(WShape.has [] (.bool true) .bool&&rE [] (.eq .res (.lit (.bool true))) _)=true
 dsimp only [rE,oK]
 decide +kernel
theorem wsaid:dA.wellSaid=true:=⋯
theorem head:dA.Holds:=holds_law wsaid λk=>Tn k (by w_witness2) (by decide +kernel) (by decide +kernel) {rfl,rfl,rfl,rfl,rfl,by decide +kernel} (by rfl) (by rfl) (by rfl)
end
end
end Mine
theorem PySem.Challenge.cw_tk0071_01_holds : PySem.Challenge.rw_tk0071_01.Holds :=
 Mine.head
