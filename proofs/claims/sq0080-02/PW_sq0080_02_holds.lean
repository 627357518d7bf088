import PyProof.Rows.All
import Wide.All
import OpenK.AllK
import Wide.FinOn
import Lean
import PySem.Challenge.RW_sq0080_02
set_option Elab.async false
set_option linter.all false
set_option tactic.hygienic false
set_option bootstrap.genMatcherCode false
set_option backward.defeqAttrib.useBackward true
set_option genCtorIdx false
set_option autoImplicit true
set_option compiler.extract_closed false
open List renaming length_append->aa,length_map->ah,append_assoc->ax,mem_cons->aA,map_append->aG,casesOn->aH,mem_singleton->aI,replicate->aK,mem_append->aM,size_toArray->aN,append_nil->aO,nodup_cons->aW,mem_map->aY,length_cons->a8,getElem?_eq_getElem->bc,getElem?_eq_some_iff->bK,map_cons->bL,rec->bN,getElem?_map->bO,all_eq_true->bS,cons_append->bT,length_nil->bZ,mem_of_getElem?->cv,getD_eq_getElem?_getD->cD,nodup_append->cM,nil_append->cU,toArray->c9,length->dj,range->dn,lookup_cons->dE,mem_range->dG,length_replicate->dJ,drop_eq_getElem_cons->dK,map_map->dP,pairwise_singleton->dX,take_of_length_le->d6,mem_append_left->eM,length_drop->eS,replicate_succ->eU,length_reverse->eV,mem_filterMap->eZ,mem_filter->e8,mem_append_right->fB,getElem?_append_right->fO,perm_ext_iff_of_nodup->fP,flatten_cons->gx,drop_of_length_le->gI,all_cons->gK,length_take->gO,map->gP,mem_reverse->gQ,flatten->hH,foldl->hJ,getLast?_concat->ij,dropLast_concat->ik,eq_nil_of_length_eq_zero->iq,map_congr_left->iy,pairwise_cons->iN,any_cons->iZ,getLast?_eq_getElem?->jh,drop_length->ju,reverse->jz,drop_append->jA,map_nil->jB,getElem_mem->jD,eq_of_mem_replicate->jE,map_reverse->jF,forIn_cons->jN,drop->jP,length_set->jQ,drop_eq_nil_of_le->j2,range_succ_eq_map->j3,map_id->j4,dropLast_eq_take->j8,getElem?_eq_none->kq,take_nil->kS,getD_cons_zero->kY,getElem_of_mem->k5,flatMap_append->k7,map_inj_right->lx,findIdx?_cons->lF,getElem?_drop->lG,push_toArray->lO,reverse_cons->lQ,length_range->lR,map_inj_left->lV,isEmpty_nil->ml,isEmpty_iff->mm,mem_nil_iff->mn,find?_cons->mw,drop_zero->mR,take_left->mZ,nodup_nil->nh,findIdx?->nL,map_drop->nM,map_take->nN,take->pf
open Nat renaming le_trans->ae,le_of_ble_eq_true->av,le_add_right->aC,le_refl->aF,add_assoc->aQ,add_le_add_left->aZ,add_comm->bk,casesOn->bz,le_succ->bA,add_le_add_right->bB,le_of_lt->bC,le_add_left->bI,lt_of_le_of_lt->bM,beq->bQ,zero_le->bW,not_lt->b8,le_of_eq->cj,le_of_succ_le->cq,succ_pos->cH,ne_of_lt->cI,zero_add->cJ,add_sub_cancel_left->cV,rec->cX,lt_of_succ_lt_succ->dA,succ_le_succ->dC,lt_succ_self->dD,le_sub_one_of_lt->dM,lt_succ_of_lt->dU,add_le_add->dZ,le_of_succ_le_succ->d7,sub_add_cancel->d8,eq_of_beq_eq_true->eD,not_succ_le_zero->eK,lt_irrefl->eW,lt_succ_of_le->fj,ble->fk,succ_ne_self->fH,sub_le_of_le_add->fJ,le_antisymm->fT,ne_of_gt->f7,lt_of_lt_of_le->f9,sub_self->gh,le_succ_of_le->gA,le_max_right->gR,le_sub_of_add_le->gX,min_eq_left->gZ,not_lt_zero->hM,add_zero->hZ,mul_succ->ip,add_right_comm->iI,add_sub_cancel->iV,cast->jm,min_eq_right->jn,succ_lt_succ->jo,le_max_left->jR,ne_of_beq_eq_false->j5,not_succ_le_self->kH,mul_le_mul_right->kL,mul_le_mul_left->k8,le_total->k9,lt_trans->ly,succ_mul->lJ,min_le_right->mh,not_le->mE,min_le_left->mF,max_le->mH,zero_min->nT,sub_zero->oj
open PySem renaming wpAny_bind->af,Value->ai,Params->aq,wpAny_pure->az,wpAny_mono->aB,model->aD,wpAny->aE,World->aP,Around->aU,OsState->bf,Heap->bp,intKind->bD,NameKind->cw,wpAny_holding->cC,wpAny_newObj_type->cN,sizeLine_eq->cQ,wpAny_of_eq->cR,wpAny_call_entry->cW,wpAny_standAt->dh,sysModules->dq,letOwnedTupleGo->dy,wpAny_truthy_bool->dS,wpAny_callSpecial?_slot->dY,clipAt->eh,wpAny_ite_split->eA,codeAny->eB,intItems->eE,Comprehension->eF,assignEach->eH,cellsFrom->eN,treeTable->eO,wpAny_askSetting->eT,assign->fv,codeAny_mono->fy,eval->fE,starEach->fF,wpAny_Call_NameR->fG,mainGlobals->fS,numAt->fV,wpAny_pyIter_tuple->f6,wpAny_typeOf->gc,valueAt->gv,argBest->gw,getMethod_builtin->gz,wpAny_setState_of->gB,wpAny_field->gH,swappedStores->gL,wpAny_isInstance->gN,compareOp->gT,builtinLookup_eq_fast->gV,wpAny_rule->hN,wpAny_execs_nil->hV,wpAny_setEntries_of->iz,isSubtype_type->iB,wpAny_seqItems->iC,wpAny_setField->iE,firstArgMember->iF,standAt->iG,Scope->iH,swapsWith->iJ,IsPart->iS,wpAny_Constant_int->iU,attributeBase->i7,assignInOrder->i8,Model->je,cLine->jf,getItem->jj,backTo->jr,pyNext->jt,wpAny_comprehension_free->jx,wpAny_specialOf->jL,typeLookup_type->jM,pushCells_keeps->jO,subscripted->jY,wpAny_getItem_list_neg->jZ,intItems_at->j1,hashInt->j6,pyIter->kh,argsOk->ki,rawInt->kj,relabel->km,isNot_none->kA,wpAny_call->kD,cameBackBy->kF,wpAny_UnaryOp->kO,behindInMarks->kP,plainId_quiet->kQ,wpAny_attempt->kU,codeAny_forLoop_any->kX,wpAny_getItem_list->lA,stored->lB,holding->lL,wpAny_pyIter_slot->lT,foldedSetIterable->lU,IsRangeIter->lZ,bm_if_false->mc,Operator->me,compPost->mj,Result->mq,builtinsNs->mz,codeAny_of_tree->mC,call_isinstance->mD,slicePick_plain->mG,importedModules->mJ,operate->mN,callType_codes->mP,newFunctionEnv->mU,isSubtype_stop->mV,entryFor_alias->mW,wpAny_fieldsOf->mY,GenResult->ni,lastMarks->nj,wpAny_For->nq,CmpOp->nO,wants->nP,binaryOp->nU,keeperOf->nZ,preSum->oe,cellOf->oi,entryFor->ou,slotArgs->oz
open Prod renaming fst->ar,snd->cf
open Option.some renaming inj->au
open PySem.Heap renaming get?_push_of_some->ay,get?_push_size->aJ,lt_size->br,get?_update_other->bH,size_push->b9,get?_none_of_le->dO,get?_update_self->eC,get?->gW,ExtBut->j0,SameBut->oq
open PySem.W.Fast renaming te2368527892694137696->aL,te3471404346716756564->bV,sDec_eq->cK,te18344453789297297638->et,te17119622794617984870->ew,te10792542408131684335->ez,te5318747976498570220->fQ,te6984425678791042302->fR,te17095254045102204799->iX,te12879404354523853263->iY,te8326940854005059898->i9,te9572597257264208301->ja,te797321630700447069->ji,named_eq->kW
open Bool renaming and_eq_true->aR,casesOn->aX,noConfusion->b6,not_eq_true'->dT,false_ne_true->f5,false_eq_true->lH,or_eq_true->my,and_assoc->mX,true_and->nz,not_true->nA,false_or->nE
open Int renaming le_trans->aT,ofNat_le->bq,fmod_nonneg_of_pos->bt,le_natAbs->bF,not_lt->bJ,fmod_lt_of_pos->bP,ofNat_lt->bR,natCast_nonneg->bU,le_of_lt->b7,le_refl->cz,add_zero->cG,toNat_natCast->cZ,lt_of_le_of_lt->c7,zero_add->c8,add_sub_cancel->dc,fmod_eq_of_lt->dx,add_le_add_left->dz,le_add_of_nonneg_right->dB,lt_of_lt_of_le->dF,lt_add_one_of_le->dQ,add_assoc->dW,not_le->d4,add_comm->d9,sub_nonneg_of_le->eG,sub_add_cancel->fc,add_right_comm->ff,casesOn->fg,mul_comm->fm,add_nonneg->fq,ofNat_natAbs_of_nonpos->fM,max_eq_left->fU,le_max_left->fY,natAbs_add_le->gC,one_mul->gF,max_eq_right->gM,le_max_right->gS,natAbs_of_nonneg->gY,mul_le_mul_of_nonneg_right->hK,toNat_of_nonneg->iu,negSucc_lt_zero->iv,toNat_of_nonpos->iw,add_mul_fmod_self_right->iW,le_of_eq->jk,eq_ofNat_of_zero_le->jH,neg_one_mul->jI,sub_neg->jS,add_mul->jT,mul_add->jU,mul_fdiv_add_fmod->kr,neg_le_of_neg_le->ku,sub_nonpos_of_le->kG,le_of_lt_add_one->kJ,max_le->kK,mul_assoc->kN,mul_zero->lg,zero_mul->lj,add_sub_assoc->lX,min_eq_left->mu,neg_le_neg->mK,mul_nonneg->mL,toNat_sub->nG,le_total->nR,lt_or_le->nV,toNat_lt->nY,pow_succ->oA,le_min->oO
open PySem.Str renaming ofString->bj
open Subtype renaming mk->bu
open Option renaming map_eq_some_iff->bG,bind_eq_some_iff->cg,casesOn->cO,bind_some->eQ,isSome_iff_exists->gj,some_ne_none->ix,bind->md,map->oR
open Pure renaming pure->cL
open PySem.Value renaming isInt->cY,isInt_shape->gy,int->gU,ref->iR,casesOn->nF,isStr->oF
open Exists renaming imp->c6,casesOn->mM
open PySem.Calls renaming Name_function_global->du,loadGlobal_global->jb,evalArgs_plain->kC
open Array renaming getElem?_toList->dH,getElem?_eq_some_iff->i6,all_toList->jC,length_toList->kZ
open PySem.W renaming typeIs_bytes->ee,findIn->eP,any_some->fh,kba_turn->fi,boot_heap->fC,instObj->gu,dictOf->gG,keepIn->hU,byRow2->jG,specialIn->jJ,lookIn_dict->jX,boot_drawn->kM,typeIn->lC,boot_toks->lK,callWith_of->lY,topRun->mI
open PySem.Builtin.Slice renaming slicePlaces->eJ,sliceAdjust->fX,slicePartIndex->mS,sliceApplied->nH
open Nat.succ renaming inj->eR
open List.cons renaming inj->eX,injEq->jK
open HAdd renaming hAdd->eY
open PySem.SeqAt renaming EqAt->e6,RcAt->jg,RcNeAt->jq
open PySem.PyData renaming keyHash->fu
open Except renaming casesOn->fA
open Int.ofNat renaming inj->fN
open PyProof.Rows renaming get?_update_seq->fW,IsTup->gJ,sortedHeap->ib,IntsAre->iA,entry_list_sort->iD,slot_list_sort->iO,args_list_sort->iQ,slot_tuple_getitem->iT,subscriptTail->i4,News->jV,is_none_gen->jW,subscriptTail_builtin->j7,neg_int->kB,unpackItems_tuple->lP,Subscript_->mA,list_sort_tree->mQ,slicePart_none->mT,truthy_int->oB,len_tuple->oH,iadd_int->oK,len_list->oM,add_str->oP,len_str->oQ,eq_int->oT,ne_int->oU,lt_int->oV,le_int->oW,gt_int->oX,ge_int->oY,eq_str->oZ
open PySem.Heap.Ns renaming of_isNs->fZ
open LawfulBEq renaming eq_of_beq->gq
open OfNat renaming ofNat->gE
open ForInStep renaming yield->ie
open PySem.Builtin.List renaming listLengthHint->iK,listExtendWith->iM,listSameRef->og,listTooLong->oh,listUpdate->oD,listItems->oJ
open PySem.Keeper renaming boundFrame->jc,machine->j9,frame->lE
open Decidable renaming not_not->jd
open PySem.Flow renaming casesOn->jv
open PySem.Builtin.Tuple renaming tupleExact->jw,tupleItemsOf->nJ
open PySem.AutoSeq1 renaming wpAny_loadPart'->jy
open PySem.MeetsSeq.EqGives renaming int->kz
open PySem.Const renaming casesOn->kT
open Classical renaming not_not->lM
open List.Pairwise renaming nil->lS
open Function renaming comp_def->lW
open PySem.Walks renaming tuple->ma
open PySem.W.KBw renaming pyIter_bytes->mf,IsBytesIter->mB
open PySem.NameKind renaming casesOn->mi
open PySem.SeqAt.EqAt renaming same->mx
open PySem.Value.type renaming inj->mO
open PySem.Builtin.Builtins renaming bindParams->nv
open PySem.SeqAt.RcNeAt renaming lists_lengths->nC,tuples->oS,lists->o8
open PySem.Builtin.Frozenset renaming oneOther->nK,slot0->oE
open PySem.Builtin.SmallTypes renaming nextOf->nQ
open PySem.pickOrder renaming go->ox
open PySem.Builtin.Range renaming rangeSize->oC,small->o7
open PySem.Heap.IsSliceOf renaming new->pe
open PySem.Heap.SameBut renaming refl->ph
noncomputable section
local macro_rules | `(tactic| lia) => `(tactic| simp_arith! [])
local macro_rules | `(tactic| simp! [$xs,*]) => `(tactic| simp_arith! [$xs,*])
local macro_rules | `(⋯) => `(by decide)
namespace Mine.Internal
open PySem
namespace Dt
noncomputable abbrev wV:=Ctx->Pos->Sem PySem.Fin->List Frame->Shared->End->Shared->Prop
def Vs(R:wV)(e:End)(s':Shared)(k:mq->Prop)(x:List Frame)(qL:Shared):End->Prop
 | .ret r=>k r
 | .susp v g l k₀ c p fs=>e=.susp v g l k₀ c p (fs++x)/\s'=qL
def xA(R:wV)(M:je)(Γ:Ctx)(p:Pos)(s:Shared)(e:End)(s':Shared)(g:Nat)(r:Resume)(k:ni->Sem PySem.Fin):Option GenState->Prop
 |none=>False
 |some (.fresh c)=>(r=.send .none/\∃sI qL,R (Γ.wake c p) p (M.den c) [] (s.setGen g .running) sI qL/\R Γ p (k sI.result) [] (qL.setGen g sI.genState) e s')\/(∃v,r=.send v/\v≠.none/\R Γ p (k .justStarted) [] s e s')\/∃x,r=.throw x/\R Γ p (k (.raised x)) [] (s.setGen g .finished) e s'
 |some (.suspended k₀ Vt c₀ QX fs cl)=>∃sI qL,R (Γ.wake c₀ p) QX (k₀ r) fs (s.setGen g .running) sI qL/\R Γ p (k sI.result) [] (qL.setGen g sI.genState) e s'
 |some .running=>R Γ p (k .running) [] s e s'
 |some .finished=>R Γ p (k .finished) [] s e s'
def ab2(R:wV)(M:je)(Γ:Ctx)(p:Pos)(s:Shared)(e:End)(s':Shared):PySem.Fin->Prop
 | .done f=>e=.ret (.ok f)/\s'=s
 | .again c=>R (Γ.goto c) p (M.den c) [] s e s'
def ab3(R:wV)(M:je)(Γ:Ctx)(p:Pos)(s:Shared)(e:End)(s':Shared):Sem PySem.Fin->Prop
 | .pure r=>ab2 R M Γ p s e s' r
 | .raise x=>e=.ret (.error x)/\s'=s
 | .rule _ k=>R Γ p (k ()) [] s e s'
 | .at p' k=>R Γ p' (k ()) [] s e s'
 | .load a _ k=>∃o,s.heap.get? a=some o/\R Γ p (k o) [] s e s'
 | .update a _ f k=>R Γ p (k ()) [] {s with heap:=s.heap.update a f} e s'
 | .alloc o k=>R Γ p (k s.heap.objs.size) [] {s with heap:=s.heap.push o} e s'
 | .loadIfAlive a k=>R Γ p (k (s.heap.get? a)) [] s e s'
 | .point _ k=>R Γ p (k ()) [] s e s'
 | .fresh k=>R Γ p (k s.toks) [] {s with toks:=s.toks+1} e s'
 | .ask k=>R Γ p (k ⟨M.prog,M.w.params⟩) [] s e s'
 | .choose src n k=>R Γ p (k (M.w.draws src (s.drawn.get src)%n)) [] {s with drawn:=s.drawn.bump src} e s'
 | .os q _ k=>R Γ p (k (Os.step s.os q).2) [] {s with os:=(Os.step s.os q).1} e s'
 | .call c h g l k=>∃sI qL,R (Γ.enter c h p) p (M.den c) [] s sI qL/\Vs R e s' (fun r=>R Γ p (k r) [] qL e s') [.ret k h g l Γ.code p []] qL sI
 | .handled own k=>R Γ p (k (if own then Γ.own else Γ.handled)) [] s e s'
 | .newGen c k=>R Γ p (k s.gens.size) [] {s with gens:=s.gens.push (.fresh c)} e s'
 | .genState g k=>∃st,s.gens[g]? =some st/\R Γ p (k st.seen) [] s e s'
 | .resume g r _ k=>xA R M Γ p s e s' g r k s.gens[g]?
 | .yield v g l k=>e=.susp v g l k Γ.code p []/\s'=s
 | .stack k=>R Γ p (k ((Γ.code,p)::Γ.below)) [] s e s'
 | .thread k=>R Γ p (k 0) [] s e s'
 |_=>False
def ab4(R:wV)(Γ:Ctx)(fs:List Frame)(qL:Shared)(e:End)(s':Shared)(r:mq):Frame->Prop
 | .ret k _ _ _ c₁ Et _=>R (Γ.goto c₁) Et (k r) fs qL e s'
 | .gen g k _ c₁ Et=>R (Γ.goto c₁) Et (k (End.ret r).result) fs (qL.setGen g .finished) e s'
def ab5(R:wV)(Γ:Ctx)(qL:Shared)(e:End)(s':Shared)(pre:List Frame)(g:Nat)(k:ni->Sem PySem.Fin)(c₁:Code)(Et:Pos)(rest:List Frame):End->Prop
 | .susp v ab6 Vt k₀ c₀ QX Vu=>R (Γ.goto c₁) Et (k (.yielded v)) rest (qL.setGen g (End.susp v ab6 Vt k₀ c₀ QX (Vu++pre)).genState) e s'
 | .ret _=>False
def Jj(R:wV)(Γ:Ctx)(x:List Frame)(qL:Shared)(e:End)(s':Shared)(sI:End):Option (List Frame×(Nat×(ni->Sem PySem.Fin)×Code×Pos)×List Frame)->Prop
 |none=>Vs R e s' (fun J=>True) x qL sI
 |some (pre,(g,k,c₁,Et),rest)=>ab5 R Γ qL e s' pre g k c₁ Et rest sI
noncomputable def Vv:End->Option mq
 | .ret r=>some r
 | .susp .. =>none
def ab7(R:wV)(Γ:Ctx)(F:Frame)(fs:List Frame)(qL:Shared)(e:End)(s':Shared)(sI:End):Option mq->Prop
 |some r=>ab4 R Γ fs qL e s' r F
 |none=>Jj R Γ (F::fs) qL e s' sI (splitAtGen (F::fs))
def Inv(R:wV)(M:je)(Γ:Ctx)(p:Pos)(t:Sem PySem.Fin)(s:Shared)(e:End)(s':Shared):List Frame->Prop
 |[]=>ab3 R M Γ p s e s' t
 |F::fs=>∃sI qL,R (Γ.over (F::fs)) p t [] s sI qL/\ab7 R Γ F fs qL e s' sI (Vv sI)
theorem inv{M:je}{Γ:Ctx}{p:Pos}{t:Sem PySem.Fin}{fs:List Frame}{s s':Shared}{e:End}(h:Runs M Γ p t fs s e s'):Inv (Runs M) M Γ p t s e s' fs:=by
 induction h with
 |done=>exact⟨rfl,rfl⟩
 |raise=>exact⟨rfl,rfl⟩
 |yield=>exact⟨rfl,rfl⟩
 |load e g=>exact⟨_,e,g⟩
 |genState e g=>exact⟨_,e,g⟩
 |call g1 g2=>exact⟨_,_,g1,g2⟩
 |callSusp g1=>exact⟨_,_,g1,rfl,rfl⟩
 |resumeFresh e g1 _ g2=>show xA _ _ _ _ _ _ _ _ _ _ _;rw[e];exact .inl ⟨rfl,_,_,g1,g2⟩
 |resumeSuspended e g1 _ g2=>show xA _ _ _ _ _ _ _ _ _ _ _;rw[e];exact⟨_,_,g1,g2⟩
 |resumeJustStarted e n g=>show xA _ _ _ _ _ _ _ _ _ _ _;rw[e];exact .inr (.inl ⟨_,rfl,n,g⟩)
 |resumeThrowFresh e g=>show xA _ _ _ _ _ _ _ _ _ _ _;rw[e];exact .inr (.inr ⟨_,rfl,g⟩)
 |resumeRunning e g=>show xA _ _ _ _ _ _ _ _ _ _ _;rw[e];exact g
 |resumeFinished e g=>show xA _ _ _ _ _ _ _ _ _ _ _;rw[e];exact g
 |segRet g1 g2=>exact⟨_,_,g1,g2⟩
 |segGen g1 g2=>exact⟨_,_,g1,g2⟩
 |segSuspOut e g1=>exact⟨_,_,g1,by show Jj _ _ _ _ _ _ _ _;rw[e];exact⟨rfl,rfl⟩⟩
 |segSuspGen e g1 _ g2=>exact⟨_,_,g1,by show Jj _ _ _ _ _ _ _ _;rw[e];exact g2⟩
 |again _ g=>exact g
 |rule g=>exact g
 |«at» g=>exact g
 |update _ g=>exact g
 |loadIfAlive g=>exact g
 |point g=>exact g
 |alloc g=>exact g
 |fresh g=>exact g
 |ask g=>exact g
 |choose _ g=>exact g
 |os g=>exact g
 |handled g=>exact g
 |stack g=>exact g
 |thread g=>exact g
 |newGen g=>exact g
theorem Jk{M:je}{Γ:Ctx}{p:Pos}{t:Sem PySem.Fin}{fs:List Frame}{s s':Shared}{e:End}(h:Runs M Γ p t fs s e s'):∀{e2 s2},Runs M Γ p t fs s e2 s2->e2=e/\s2=s':=by
 induction h with
 |done=>exact fun g=>inv g
 |raise=>exact fun g=>inv g
 |yield=>exact fun g=>inv g
 |load e _ ih=>intro e2 s2 g;obtain⟨o,e',g⟩:=inv g;rw[e]at e';cases e';exact ih g
 |genState e _ ih=>intro e2 s2 g;obtain⟨o,e',g⟩:=inv g;rw[e]at e';cases e';exact ih g
 |call _ _ v8 Bt=>intro e2 s2 g;obtain⟨sI,qL,g1,g2⟩:=inv g;obtain⟨rfl,rfl⟩:=v8 g1;exact Bt g2
 |callSusp _ v8=>intro e2 s2 g;obtain⟨sI,qL,g1,g2⟩:=inv g;obtain⟨rfl,rfl⟩:=v8 g1;exact g2
 |resumeFresh e _ _ _ v8 Bt=>
  intro e2 s2 g;have g:xA _ _ _ _ _ _ _ _ _ _ _:=inv g;rw[e]at g;rcases g with⟨_,sI,qL,g1,g2⟩|⟨v,z,n,_⟩|⟨x,z,_⟩
  ·obtain⟨rfl,rfl⟩:=v8 g1;exact Bt g2
  ·cases z;exact absurd rfl n
  ·cases z
 |resumeSuspended e _ _ _ v8 Bt=>intro e2 s2 g;have g:xA _ _ _ _ _ _ _ _ _ _ _:=inv g;rw[e]at g;obtain⟨sI,qL,g1,g2⟩:=g;obtain⟨rfl,rfl⟩:=v8 g1;exact Bt g2
 |resumeJustStarted e n _ ih=>
  intro e2 s2 g;have g:xA _ _ _ _ _ _ _ _ _ _ _:=inv g;rw[e]at g;rcases g with⟨z,_⟩|⟨v,z,n,g⟩|⟨x,z,_⟩
  ·cases z;exact absurd rfl n
  ·exact ih g
  ·cases z
 |resumeThrowFresh e _ ih=>
  intro e2 s2 g;have g:xA _ _ _ _ _ _ _ _ _ _ _:=inv g;rw[e]at g;rcases g with⟨z,_⟩|⟨v,z,n,g⟩|⟨x,z,g⟩
  ·cases z
  ·cases z
  ·cases z;exact ih g
 |resumeRunning e _ ih=>intro e2 s2 g;have g:xA _ _ _ _ _ _ _ _ _ _ _:=inv g;rw[e]at g;exact ih g
 |resumeFinished e _ ih=>intro e2 s2 g;have g:xA _ _ _ _ _ _ _ _ _ _ _:=inv g;rw[e]at g;exact ih g
 |segRet _ _ v8 Bt=>intro e2 s2 g;obtain⟨sI,qL,g1,g2⟩:=inv g;obtain⟨rfl,rfl⟩:=v8 g1;exact Bt g2
 |segGen _ _ v8 Bt=>intro e2 s2 g;obtain⟨sI,qL,g1,g2⟩:=inv g;obtain⟨rfl,rfl⟩:=v8 g1;exact Bt g2
 |segSuspOut e _ v8=>intro e2 s2 g;obtain⟨sI,qL,g1,g2⟩:=inv g;obtain⟨rfl,rfl⟩:=v8 g1;have g2:Jj _ _ _ _ _ _ _ _:=g2;rw[e]at g2;exact g2
 |segSuspGen e _ _ _ v8 Bt=>intro e2 s2 g;obtain⟨sI,qL,g1,g2⟩:=inv g;obtain⟨rfl,rfl⟩:=v8 g1;have g2:Jj _ _ _ _ _ _ _ _:=g2;rw[e]at g2;exact Bt g2
 |again _ _ ih=>exact fun g=>ih (inv g)
 |rule _ ih=>exact fun g=>ih (inv g)
 |«at» _ ih=>exact fun g=>ih (inv g)
 |update _ _ ih=>exact fun g=>ih (inv g)
 |loadIfAlive _ ih=>exact fun g=>ih (inv g)
 |point _ ih=>exact fun g=>ih (inv g)
 |alloc _ ih=>exact fun g=>ih (inv g)
 |fresh _ ih=>exact fun g=>ih (inv g)
 |ask _ ih=>exact fun g=>ih (inv g)
 |choose _ _ ih=>exact fun g=>ih (inv g)
 |os _ ih=>exact fun g=>ih (inv g)
 |handled _ ih=>exact fun g=>ih (inv g)
 |stack _ ih=>exact fun g=>ih (inv g)
 |thread _ ih=>exact fun g=>ih (inv g)
 |newGen _ ih=>exact fun g=>ih (inv g)
theorem Jl{M:je}{Γ:Ctx}{R1 R2:mq->Shared->Prop}{p:Pos}{s:Shared}(h1:wpCode M Γ R1 p s)(h2:wpCode M Γ R2 p s):wpCode M Γ (fun r s'=>R1 r s'/\R2 r s') p s:=by obtain⟨r1,s1,a1,b1⟩:=h1;obtain⟨r2,s2,a2,b2⟩:=h2;obtain⟨z1,z2⟩:=Jk a1 a2;cases z1;cases z2;exact⟨_,_,a1,b1,b2⟩
end Dt
end Mine.Internal
namespace Mine.Internal
namespace Z
section
variable{a b c d k n x y m:Nat}
theorem off(k:Nat)(h:x+k<=c):x<=c:=ae (aC x k) h
theorem UY(k:Nat)(h:k+x<=c):x<=c:=ae (bI x k) h
theorem ofm(k:Nat)(h:x+k+y<=c):x+y<=c:=ae (bB (aC x k) y) h
theorem lb(h:n<=a)(e:fk a b=true):n<=b:=ae h (av e)
theorem lbl(h:n<a)(e:fk a b=true):n<=b:=ae (bC h) (av e)
theorem lb1(h:n<=a)(e:fk (a+1) b=true):n<b:=ae (dC h) (av e)
theorem dm(h:n<d):n<=d - 1:=dM h
theorem ac(h:k+y<=c)(g:x<=y):k+x<=c:=ae (aZ g k) h
theorem rc(h:k+y+x<=c):k+x+y<=c:=by rw[iI];exact h
theorem sb(h:x<y):y - (x+1)<y - x:=Nat.sub_succ_lt_self _ _ h
theorem ctn(h:x<=y)(g:¬x<y):x=y:=fT h (b8.mp g)
theorem s1(h:k+1<=d):k<=d - 1:=gX h
theorem ss(h:k+1<=d):d - k=d - (k+1)+1:=(d8 (gX ((bk k 1)▸h))).symm
end
section
variable{x y z a b c d:Int}{n m k:Nat}
theorem cn:(0:Int)<=(n:Int):=bU n
theorem ZH:¬((n:Int)<0):=bJ.mpr (bU n)
theorem na: -x<=(x.natAbs:Int):=Int.natAbs_neg x▸bF
theorem ng: -(x.natAbs:Int)<=x:=ku na
theorem nno(h:x.natAbs<n)(e:decide (b<=-(n:Int))=true):b<x:=c7 (of_decide_eq_true e) (dF (Int.neg_lt_neg (bR.mpr h)) ng)
theorem Hl(h:x.natAbs<n)(e:decide ((n:Int)<=b)=true):x<b:=c7 bF (dF (bR.mpr h) (of_decide_eq_true e))
theorem Nd(h:x.natAbs<n)(e:decide (b<=-(n:Int))=true):b<=x:=b7 (nno h e)
theorem ncl(h:(x.natAbs:Int)<=c)(e:decide (c<=b)=true):x<=b:=aT bF (aT h (of_decide_eq_true e))
theorem QY(h:(x.natAbs:Int)<=c)(e:decide (c<b)=true):x<b:=c7 (aT bF h) (of_decide_eq_true e)
theorem ZI(h:(x.natAbs:Int)<=c)(e:decide (b<=-c)=true):b<=x:=aT (of_decide_eq_true e) (aT (mK h) ng)
theorem we(h: -c<=x)(g:x<=c):(x.natAbs:Int)<=c:=(nR 0 x).elim (fun z=>(gY z).symm▸g) fun z=>(fM z).symm▸ku h
theorem wl(h: -(n:Int)<x)(g:x<n):x.natAbs<n:=bR.mp ((nR 0 x).elim (fun z=>(gY z).symm▸g) fun z=>(fM z).symm▸Int.neg_lt_of_neg_lt h)
theorem Hm(h:a<=x)(g:x<=b)(e:decide (-c<=a/\b<=c)=true):(x.natAbs:Int)<=c:=we (aT (of_decide_eq_true e).1 h) (aT g (of_decide_eq_true e).2)
theorem ab8(h:a<=x)(g:x<b)(e:decide (-c<=a/\b<=c)=true):(x.natAbs:Int)<=c:=Hm h (b7 g) e
theorem Vw(h:a<=x)(g:x<b)(e:decide (-(n:Int)<a/\b<=n)=true):x.natAbs<n:=wl (dF (of_decide_eq_true e).1 h) (dF g (of_decide_eq_true e).2)
theorem ab9(h:a<x)(g:x<=b)(e:decide (-(n:Int)<=a/\b<n)=true):x.natAbs<n:=wl (c7 (of_decide_eq_true e).1 h) (c7 g (of_decide_eq_true e).2)
theorem il(h:x<=a)(e:decide (a<=b)=true):x<=b:=aT h (of_decide_eq_true e)
theorem ill(h:x<a)(e:decide (a<=b)=true):x<=b:=aT (b7 h) (of_decide_eq_true e)
theorem ilt(h:x<a)(e:decide (a<=b)=true):x<b:=dF h (of_decide_eq_true e)
theorem il1(h:x<=a)(e:decide (a<b)=true):x<b:=c7 h (of_decide_eq_true e)
theorem ig(h:a<=x)(e:decide (b<=a)=true):b<=x:=aT (of_decide_eq_true e) h
theorem cil(h:n<=m)(e:decide ((m:Int)<=b)=true):(n:Int)<=b:=aT (bq.mpr h) (of_decide_eq_true e)
theorem cit(h:n<m)(e:decide ((m:Int)<=b)=true):(n:Int)<b:=dF (bR.mpr h) (of_decide_eq_true e)
theorem ci1(h:n<=m)(e:decide ((m:Int)<b)=true):(n:Int)<b:=c7 (bq.mpr h) (of_decide_eq_true e)
theorem cgl(h:¬n<m)(e:decide (b<=(m:Int))=true):b<=(n:Int):=aT (of_decide_eq_true e) (bq.mpr (b8.mp h))
theorem Vx(h:n<=m)(e:decide ((m:Int)<=b)=true):¬b<(n:Int):=bJ.mpr (aT (bq.mpr h) (of_decide_eq_true e))
theorem tn(h:0<=x):((x.toNat:Nat):Int)=x:=iu h
theorem tl(h:0<=x)(g:x<n):x.toNat<n:=bR.mp ((tn h).symm▸g)
theorem tle(h:0<=x)(g:x<=n):x.toNat<=n:=bq.mp ((tn h).symm▸g)
theorem te(h:x=n):x.toNat=n:=h▸rfl
theorem av5(h:0<=x - y):x - y=(((x - y).toNat:Nat):Int):=(tn h).symm
theorem ad0(h: -(n:Int)<=x):0<=x+n:=jS x n▸eG h
theorem ad1(h:0<=x+n): -(n:Int)<=x:=Int.le_of_sub_nonneg ((jS x n).symm▸h)
theorem ad2(h:x<0):x+n<n:=dF (Int.add_lt_add_right h _) (jk (c8 _))
theorem tm(x:Int)(n:Nat):max 0 (min x n)=((min x.toNat n:Nat):Int):=by
 induction x using fg with
 |ofNat k=>exact(gM (oO.mpr ⟨cn,cn⟩)).trans ((k9 k n).elim (fun z=>(mu (bq.mpr z)).trans (congrArg jm (gZ z)).symm) fun z=>(Int.min_eq_right (bq.mpr z)).trans (congrArg jm (jn z)).symm)
 |negSucc k=>exact(fU (aT (Int.min_le_left _ _) (b7 (iv k)))).trans (congrArg jm (nT n)).symm
theorem bn[DecidablePred p](h:n<k)(e:decide (∀i<k,p i)=true):p n:=of_decide_eq_true e n h
theorem bi[DecidablePred p](h:0<=x)(g:x<(k:Int))(e:decide (∀i<k,p (i:Int))=true):p x:=(tn h)▸of_decide_eq_true e _ (tl h g)
end
theorem tF{p:Prop}(h:true=false):p:=nomatch h
theorem nS{p:Prop}(h:none=some x):p:=nomatch h
end Z
section
namespace Z
set_option genInjectivity false
set_option genSizeOf false
inductive E where|v(i:Nat)|c(k:Nat)|b(t:Nat)(x y:E)|u(t k:Nat)(x:E)
noncomputable def gt{α:Type}(d:α)(l:List α)(n:Nat):α:=(fun J:PySem.W.OpenLaw->Prop=>bN (motive:=fun J=>Nat->α) (fun J=>d) (fun x J ih n=>cX (motive:=fun J=>α) x (fun n J=>ih n) n) l n) PySem.W.OpenLaw.Holds
def gp(d:Prop)(l:List Prop)(n:Nat):Prop:=(fun J:PySem.W.OpenLaw->Prop=>bN (motive:=fun J=>Nat->Prop) (fun J=>d) (fun x J ih n=>cX (motive:=fun J=>Prop) x (fun n J=>ih n) n) l n) PySem.W.OpenLaw.Holds
def dN(b:List Nat)(e:E):Nat:=(fun J:PySem.W.OpenLaw->Prop=>E.rec (motive:=fun J=>Nat) (gt 0 b) (fun k=>gE k) (fun t J J x y=>gt 0 [x+y] t) (fun t k J x=>gt 0 [gE k*x,x*gE k] t) e) PySem.W.OpenLaw.Holds
def dI(a:List Int)(b:List Nat)(e:E):Int:=(fun J:PySem.W.OpenLaw->Prop=>E.rec (motive:=fun J=>Int) (gt 0 a) (fun k=> @gE Int k (@instOfNat k)) (fun t J J x y=>gt 0 [x+y,x - y] t) (fun t k e x=>gt 0 [@gE Int k (@instOfNat k)*x,x* @gE Int k (@instOfNat k),-x,((dN b e:Nat):Int)] t) e) PySem.W.OpenLaw.Holds
noncomputable def za(l:List Int):List Int->List Int:=bN (motive:=fun J=>List Int->List Int) (fun m=>m) (fun x l r m=>aH m (x::l) fun y m=>(x+y)::r m) l
noncomputable def zm(c:Int)(l:List Int):List Int:=l.map (c*·)
noncomputable def dt(l:List Int):List Int->Int:=bN (motive:=fun J=>List Int->Int) (fun J=>0) (fun x J r m=>aH m 0 fun y m=>x*y+r m) l
noncomputable def uv(n:Nat):List Int:=cX [1] (fun J r=>0::r) n
noncomputable def cs(l:List Nat):List Int:=l.map fun(x:Nat)=>(x:Int)
theorem a4(a b c d:Int):(a+b)+(c+d)=(a+c)+(b+d):=by rw[dW,Int.add_left_comm b,<-dW]
theorem P4(l:List Int):∀m a,dt (za l m) a=dt l a+dt m a:=by
 induction l with
 |nil=>exact fun m a=>(c8 _).symm
 |cons x l ih=>exact fun m a=>bN (motive:=fun a=>dt (za (x::l) m) a=dt (x::l) a+dt m a) (bN (motive:=fun m=>dt (za (x::l) m) []=0+dt m []) rfl (fun J J J=>rfl) m) (fun z a J=>bN (motive:=fun m=>dt (za (x::l) m) (z::a)=(x*z+dt l a)+dt m (z::a)) (cG _).symm (fun y m J=>(congr (congrArg eY (jT x y z)) (ih m a)).trans (a4 _ _ _ _)) m) a
theorem P5(c:Int)(l:List Int):∀a,dt (zm c l) a=c*dt l a:=by
 induction l with
 |nil=>exact fun a=>(lg _).symm
 |cons x l ih=>exact fun a=>bN (motive:=fun a=>dt (zm c (x::l)) a=c*dt (x::l) a) (lg _).symm (fun z a J=>(congr (congrArg eY (kN c x z)) (ih a)).trans (jU _ _ _).symm) a
theorem P6(n:Nat):∀a,dt (uv n) a=gt 0 a n:=by
 induction n with
 |zero=>exact fun a=>bN (motive:=fun a=>dt [1] a=gt 0 a 0) rfl (fun x a J=>(cG _).trans (gF x)) a
 |succ n ih=>exact fun a=>bN (motive:=fun a=>dt (0::uv n) a=gt 0 a (n+1)) rfl (fun x a J=>(congr (congrArg eY (lj x)) (ih a)).trans (c8 _)) a
theorem Vy(n:Nat):∀b,gt 0 (cs b) n=((gt 0 b n:Nat):Int):=by
 induction n with
 |zero=>exact fun b=>bN (motive:=fun b=>gt 0 (cs b) 0=((gt 0 b 0:Nat):Int)) rfl (fun J J J=>rfl) b
 |succ n ih=>exact fun b=>bN (motive:=fun b=>gt 0 (cs b) (n+1)=((gt 0 b (n+1):Nat):Int)) rfl (fun J b J=>ih b) b
structure F where(k:Int)(a b:List Int)
def F.d(f:F)(a:List Int)(b:List Nat):Int:=f.k+(dt f.a a+dt f.b (cs b))
def F.add(f g:F):F:=⟨f.k+g.k,za f.a g.a,za f.b g.b⟩
def F.mul(c:Int)(f:F):F:=⟨c*f.k,zm c f.a,zm c f.b⟩
noncomputable def F0:F:=⟨0,[],[]⟩
section
variable{a:List Int}{b:List Nat}
theorem F.AV(f g:F):(f.add g).d a b=f.d a b+g.d a b:=(congrArg (f.k+g.k+·) ((congr (congrArg eY (P4 f.a g.a a)) (P4 f.b g.b _)).trans (a4 _ _ _ _))).trans (a4 _ _ _ _)
theorem F.yh(c:Int)(f:F):(F.mul c f).d a b=c*f.d a b:=(congrArg (c*f.k+·) ((congr (congrArg eY (P5 c f.a a)) (P5 c f.b _)).trans (jU _ _ _).symm)).trans (jU _ _ _).symm
def lN(e:E):F:=E.rec (motive:=fun J=>F) (fun i=>⟨0,[],uv i⟩) (fun k=>⟨k,[],[]⟩) (fun t J J x y=>gt F0 [x.add y] t) (fun t k J x=>gt F0 [F.mul k x,F.mul k x] t) e
def lI(e:E):F:=E.rec (motive:=fun J=>F) (fun i=>⟨0,uv i,[]⟩) (fun k=>⟨k,[],[]⟩) (fun t J J x y=>gt F0 [x.add y,x.add (F.mul (-1) y)] t) (fun t k e x=>gt F0 [F.mul k x,F.mul k x,F.mul (-1) x,lN e] t) e
theorem Jm(x:E):(lN x).d a b=(dN b x:Nat):=by
 induction x with
 |v i=>exact(c8 _).trans ((c8 _).trans ((P6 i _).trans (Vy i b)))
 |c k=>exact rfl
 |b t x y hx hy=>induction t using bz with
  |zero=>exact(F.AV _ _).trans (congr (congrArg eY hx) hy)
  |succ=>exact rfl
 |u t k x hx=>induction t using bz with
  |zero=>exact(F.yh _ _).trans (congrArg _ hx)
  |succ t=>induction t using bz with
   |zero=>exact(F.yh _ _).trans ((congrArg _ hx).trans (fm _ _))
   |succ=>exact rfl
theorem Nf(x:E):(lI x).d a b=dI a b x:=by
 induction x with
 |v i=>exact(c8 _).trans ((cG _).trans (P6 i _))
 |c k=>exact rfl
 |b t x y hx hy=>induction t using bz with
  |zero=>exact(F.AV _ _).trans (congr (congrArg eY hx) hy)
  |succ t=>induction t using bz with
   |zero=>exact(F.AV _ _).trans (congr (congrArg eY hx) (((F.yh _ _).trans (jI _)).trans (congrArg _ hy)))
   |succ=>exact rfl
 |u t k x hx=>induction t using bz with
  |zero=>exact(F.yh _ _).trans (congrArg _ hx)
  |succ t=>induction t using bz with
   |zero=>exact(F.yh _ _).trans ((congrArg _ hx).trans (fm _ _))
   |succ t=>induction t using bz with
    |zero=>exact(F.yh _ _).trans ((jI _).trans (congrArg _ hx))
    |succ t=>induction t using bz with
     |zero=>exact Jm x
     |succ=>exact rfl
def PI(x y:Int):Nat->Prop:=gp False [x<=y,x<y,x=y,¬x<=y,¬x<y]
def PN(x y:Nat):Nat->Prop:=gp False [x<=y,x<y,x=y,¬x<=y,¬x<y]
def dR(a:List Int)(b:List Nat)(r:Nat×E×E):Prop:=(fun J:PySem.W.OpenLaw->Prop=>cX (motive:=fun J=>Prop) (PI (dI a b r.2.1) (dI a b r.2.2) (r.1/2)) (fun J J=>PN (dN b r.2.1) (dN b r.2.2) (r.1/2)) (r.1%2)) PySem.W.OpenLaw.Holds
def sf(f g:F)(c:Int):F:=(F.mk c [] []).add (g.add (F.mul (-1) f))
theorem Vz(f g c):(sf f g c).d a b=c+(g.d a b - f.d a b):=(F.AV _ _).trans (congr (congrArg eY (cG c)) ((F.AV _ _).trans (congrArg (g.d a b+·) ((F.yh _ _).trans (jI _)))))
def hf(f g:F):Nat->List F:=gt [] [[sf f g 0],[sf f g (-1)],[sf f g 0,sf g f 0],[sf g f (-1)],[sf g f 0]]
def nf(f g:F):Nat->List F:=gt [F0] [[sf g f (-1)],[sf g f 0],[sf g f (-1),sf f g (-1)],[sf f g 0],[sf f g (-1)]]
def hs(r:Nat×E×E):List F:=cX (motive:=fun J=>List F) (hf (lI r.2.1) (lI r.2.2) (r.1/2)) (fun J J=>hf (lN r.2.1) (lN r.2.2) (r.1/2)) (r.1%2)
def ns(r:Nat×E×E):List F:=cX (motive:=fun J=>List F) (nf (lI r.2.1) (lI r.2.2) (r.1/2)) (fun J J=>nf (lN r.2.1) (lN r.2.2) (r.1/2)) (r.1%2)
def al(a:List Int)(b:List Nat)(l:List F):Prop:=bN (motive:=fun J=>Prop) True (fun f J r=>0<=f.d a b/\r) l
def an(a:List Int)(b:List Nat)(l:List F):Prop:=bN (motive:=fun J=>Prop) False (fun f J r=>0<=f.d a b\/r) l
theorem f0(h:f.d a b<=g.d a b):0<=(sf f g 0).d a b:=(Vz f g 0).symm▸(c8 (g.d a b - f.d a b)).symm▸eG h
theorem f1(h:f.d a b<g.d a b):0<=(sf f g (-1)).d a b:=(Vz f g (-1)).symm▸d9 (g.d a b - f.d a b) (-1)▸eG (Int.le_sub_left_of_add_le h:(1:Int)<=_)
def QZ{P:Nat->Prop}(h0:P 0)(h1:P 1)(h2:P 2)(h3:P 3)(h4:P 4)(h5:∀n,P (n+5))(n:Nat):P n:=bz n h0 fun n=>bz n h1 fun n=>bz n h2 fun n=>bz n h3 fun n=>bz n h4 h5
theorem P7:∀t,PI (f.d a b) (g.d a b) t->al a b (hf f g t):=
 QZ (fun h=>⟨f0 h,trivial⟩) (fun h=>⟨f1 h,trivial⟩) (fun h=>⟨f0 (jk h),f0 (jk h.symm),trivial⟩) (fun h=>⟨f1 (d4.mp h),trivial⟩) (fun h=>⟨f0 (bJ.mp h),trivial⟩) fun J h=>h.elim
theorem P8:∀t,¬PI (f.d a b) (g.d a b) t->an a b (nf f g t):=
 QZ (fun h=>.inl (f1 (d4.mp h))) (fun h=>.inl (f0 (bJ.mp h))) (fun h=>(Int.lt_or_gt_of_ne h).elim (fun z=>.inr (.inl (f1 z))) fun z=>.inl (f1 z)) (fun h=>.inl (f0 (lM.mp h))) (fun h=>.inl (f1 (lM.mp h))) fun J J=>.inl (cz 0)
theorem PNI:∀t,PN x y t↔PI x y t:=QZ bq.symm bR.symm ⟨congrArg jm,fN⟩ (not_congr bq.symm) (not_congr bR.symm) fun J=>Iff.rfl
theorem VA(r:Nat×E×E):dR a b r->al a b (hs r):=cX (motive:=fun n=>cX (motive:=fun J=>Prop) (PI (dI a b r.2.1) (dI a b r.2.2) (r.1/2)) (fun J J=>PN (dN b r.2.1) (dN b r.2.2) (r.1/2)) n->al a b (cX (motive:=fun J=>List F) (hf (lI r.2.1) (lI r.2.2) (r.1/2)) (fun J J=>hf (lN r.2.1) (lN r.2.2) (r.1/2)) n))
 (fun h=>P7 _ (by rw[Nf,Nf];exact h)) (fun J J h=>P7 _ (by rw[Jm,Jm];exact(PNI _).mp h)) (r.1%2)
theorem VB(r:Nat×E×E):¬dR a b r->an a b (ns r):=cX (motive:=fun n=>¬cX (motive:=fun J=>Prop) (PI (dI a b r.2.1) (dI a b r.2.2) (r.1/2)) (fun J J=>PN (dN b r.2.1) (dN b r.2.2) (r.1/2)) n->an a b (cX (motive:=fun J=>List F) (nf (lI r.2.1) (lI r.2.2) (r.1/2)) (fun J J=>nf (lN r.2.1) (lN r.2.2) (r.1/2)) n))
 (fun h=>P8 _ (by rw[Nf,Nf];exact h)) (fun J J h=>P8 _ (by rw[Jm,Jm];exact fun z=>h ((PNI _).mpr z))) (r.1%2)
def cb(l:List Nat):List F->F:=bN (motive:=fun J=>List F->F) (fun J=>F0) (fun c J r m=>aH m F0 fun f m=>(F.mul c f).add (r m)) l
theorem VC(l:List Nat):∀m,al a b m->0<=(cb l m).d a b:=by
 induction l with
 |nil=>exact fun J J=>cz 0
 |cons c l ih=>exact fun m=>bN (motive:=fun m=>al a b m->0<=(cb (c::l) m).d a b) (fun J=>cz 0) (fun f m J h=>(F.AV _ _).symm▸fq ((F.yh c f).symm▸mL (bU c) h.1) (ih m h.2)) m
def sg(x:Int)(n z p:Bool):Bool:=fg x (fun k=>bz k z fun J=>p) fun J=>n
theorem VD:∀{x:Int},sg x true false false=true->x<0:=fun{x}=>fg (motive:=fun x=>sg x true false false=true->x<0) x (fun k=>bz k (fun h=>nomatch h) fun J h=>nomatch h) fun n J=>iv n
theorem ac0:∀{x:Int},sg x false true false=true->x=0:=fun{x}=>fg (motive:=fun x=>sg x false true false=true->x=0) x (fun k=>bz k (fun J=>rfl) fun J h=>nomatch h) fun n h=>nomatch h
theorem VE:∀{x:Int},sg x true true false=true->x<=0:=fun{x}=>fg (motive:=fun x=>sg x true true false=true->x<=0) x (fun k=>bz k (fun J=>cz 0) fun J h=>nomatch h) fun n J=>b7 (iv n)
theorem xB(h:(p&&q)=true):p=true/\q=true:=(aR p q).mp h
theorem VF(l:List Int):∀(a:List Int),l.all (sg · false true false)=true->dt l a=0:=by
 induction l with
 |nil=>exact fun J J=>rfl
 |cons x l ih=>exact fun a=>bN (motive:=fun a=>(x::l).all (sg · false true false)=true->dt (x::l) a=0) (fun J=>rfl) (fun y a J h=>(congr (congrArg eY ((congrArg (· *y) (ac0 (xB h).1)).trans (lj y))) (ih a (xB h).2)).trans rfl) a
theorem VG(l:List Int):∀(b:List Nat),l.all (sg · true true false)=true->dt l (cs b)<=0:=by
 induction l with
 |nil=>exact fun J J=>cz 0
 |cons x l ih=>exact fun b=>bN (motive:=fun b=>(x::l).all (sg · true true false)=true->dt (x::l) (cs b)<=0) (fun J=>cz 0) (fun y b J h=>Int.add_le_add (Int.mul_nonpos_of_nonpos_of_nonneg (VE (xB h).1) (bU y)) (ih b (xB h).2)) b
def bd(f:F):Bool:=sg f.k true false false&&(f.a.all (sg · false true false)&&f.b.all (sg · true true false))
theorem VH(h:bd f=true):¬0<=f.d a b:=d4.mpr (Int.add_lt_add_of_lt_of_le (VD (xB h).1) ((congrArg (· +dt f.b (cs b)) (VF f.a a (xB (xB h).2).1)).trans (c8 _)▸VG f.b b (xB (xB h).2).2))
def fl(l:List (Nat×E×E)):List F:=bN [] (fun r J ih=>hs r++ih) l
def den(a:List Int)(b:List Nat)(g:Nat×E×E)(l:List (Nat×E×E)):Prop:=(fun J:PySem.W.OpenLaw->Prop=>bN (motive:=fun J=>Prop) (dR a b g) (fun r J ih=>dR a b r->ih) l) PySem.W.OpenLaw.Holds
def ckl(m:List F)(l:List (List Nat)):List F->Bool:=bN (motive:=fun J=>List F->Bool) (fun J=>true) (fun c J r n=>aH n false fun f n=>bd (cb c (f::m))&&r n) l
def kl'(m:List F)(l:List (List Nat))(n:List F):Bool:=ckl m l n&&bQ l.length n.length
theorem Q0(hm:al a b m)(n:List F):∀l,bQ l.length n.length=true->ckl m l n=true->¬an a b n:=by
 induction n with
 |nil=>exact fun J J J=>id
 |cons f n ih=>exact fun l=>aH l (fun h=>nomatch h) fun c l h k z=>z.elim (fun z=>VH (xB k).1 (VC c (f::m) ⟨z,hm⟩)) (ih l h (xB k).2)
theorem Q1(l:List F):al a b l->al a b m->al a b (l++m):=bN (motive:=fun l=>al a b l->al a b m->al a b (l++m)) (fun J h=>h) (fun J J ih h g=>⟨h.1,ih h.2 g⟩) l
theorem Q2(l:List (Nat×E×E)):(al a b (fl l)->dR a b g)->den a b g l:=bN (motive:=fun l=>(al a b (fl l)->dR a b g)->den a b g l) (fun h=>h trivial) (fun r l ih h hr=>ih fun k=>h (Q1 _ (VA r hr) k)) l
end
noncomputable def dg(k:Nat):Nat->List Nat:=cX (motive:=fun J=>Nat->List Nat) (fun J=>[]) (fun J r n=>n%16::r (n/16)) k
def hd(l:List Nat):Nat:=gt 0 l 0
def pn(k:Nat):Nat->List Nat->Nat×List Nat:=cX (motive:=fun J=>Nat->List Nat->Nat×List Nat) (fun x l=>(x,l)) (fun J r x l=>r (x*16+hd l) l.tail) k
def pm(l:List Nat):Nat×List Nat:=pn (bif bQ (hd l) 15 then 24 else hd l) 0 l.tail
def pE(k:Nat):List Nat->E×List Nat:=cX (motive:=fun J=>List Nat->E×List Nat) (fun l=>(.c 0,l)) (fun J r l=>
 gt (E.v (hd l - 8),l.tail) [(.c 0,l.tail),(.b 0 (r l.tail).1 (r (r l.tail).2).1,(r (r l.tail).2).2),(.b 1 (r l.tail).1 (r (r l.tail).2).1,(r (r l.tail).2).2),(.c (pm l.tail).1,(pm l.tail).2),(.u 0 (pm l.tail).1 (r (pm l.tail).2).1,(r (pm l.tail).2).2),(.u 2 0 (r l.tail).1,(r l.tail).2),(.u 3 0 (r l.tail).1,(r l.tail).2),(.u 1 (pm l.tail).1 (r (pm l.tail).2).1,(r (pm l.tail).2).2)] (hd l)) k
def pR(l:List Nat):(Nat×E×E)×List Nat:=((bif Nat.blt (hd l) 5 then hd l*2 else(hd l - 5)*2+1,(pE 20 l.tail).1,(pE 20 (pE 20 l.tail).2).1),(pE 20 (pE 20 l.tail).2).2)
def pH(k:Nat):List Nat->List (Nat×E×E)×List Nat:=cX (motive:=fun J=>List Nat->List (Nat×E×E)×List Nat) (fun l=>([],l)) (fun J r l=>((pR l).1::(r (pR l).2).1,(r (pR l).2).2)) k
def pc(k:Nat):List Nat->List Nat×List Nat:=cX (motive:=fun J=>List Nat->List Nat×List Nat) (fun l=>([],l)) (fun J r l=>((pm l).1::(r (pm l).2).1,(r (pm l).2).2)) k
def pC(k:Nat):List Nat->List (List Nat):=cX (motive:=fun J=>List Nat->List (List Nat)) (fun J=>[]) (fun J r l=>(pc (hd l) l.tail).1::r (pc (hd l) l.tail).2) k
def pG(n:Nat):(Nat×E×E)×List Nat:=pR (dg 250 n)
def pP(n:Nat):List (Nat×E×E)×List Nat:=pH (hd (pG n).2) (pG n).2.tail
def ck(n:Nat):Bool:=ckl (fl (pP n).1) ((pC 2 (pP n).2).take (ns (pG n).1).length) (ns (pG n).1)&&bQ ((pC 2 (pP n).2).take (ns (pG n).1).length).length (ns (pG n).1).length
theorem o(n:Nat)(a:List Int)(b:List Nat)(h:ck n=true):den a b (pG n).1 (pP n).1:=
 Q2 _ fun k=>Classical.byContradiction fun z=>Q0 k _ _ (xB h).2 (xB h).1 (VB _ z)
section
variable{x a b c:Int}
theorem hl(h:x=a\/x=b)(e:decide (c<=a/\c<=b)=true):c<=x:=h.elim (fun z=>z▸(of_decide_eq_true e).1) fun z=>z▸(of_decide_eq_true e).2
theorem hh(h:x=a\/x=b)(e:decide (a<=c/\b<=c)=true):x<=c:=h.elim (fun z=>z▸(of_decide_eq_true e).1) fun z=>z▸(of_decide_eq_true e).2
end
end Z
end
end Mine.Internal
namespace Mine.Internal
open PySem PySem.W PySem.Calls PyProof.Rows
section
set_option genInjectivity false
set_option genSizeOf false
set_option genCtorIdx true in
inductive V where
 |rG|none
 |bool(b:Bool)|int(i:Int)|str(s:PySem.Str)|bytes(l:List Int)
 |ref(a:Addr)|typ(n:String)|Ak(a b c:Int)|tup(l:List V)
set_option genCtorIdx true in
inductive O where
 |list(l:List V)
 |inst(C:Addr)(f:List (Nat×V))
 |dict(es:List (Int×V))(ep:Nat)
 |rl(l:List V)(vs:List ai)(n:Nat)
noncomputable abbrev MH:=Addr->Option O
noncomputable def MH.upd(H:MH)(a:Addr)(o:O):MH:=fun b=>if b=a then some o else H b
noncomputable def names:List String:=["across","append","at","boundary","chars","check","choose","close","code","comment","deepest","depth","design","done","down","edge_start","extend","font","fonts","get","glue","go","go_across","go_down","h","has","height","hit","hyphen_char","items","kerns","kind","last","leader","letter","middle","move","name","number","octets","open","order","pages","params","plain","pop","program","prune","push","ratio","reason","rows","rule","shift","ship","shrink","shrink_order","sign","signed","size","skew_char","sort","special","stack","stretch","stretch_order","taken","tallest","units","v","w","widest","width","x","y","z"]
def AT(k:Nat):PySem.Str:=bj (names.getD k "")
structure Tg where
 a:Addr
def LL[Inhabited Tg]:Addr:=(default:Tg).a
section
variable[Inhabited Tg]
mutual
def VR(h:bp):V->ai->Prop
 | .rG,_=>False
 | .none,v=>v=.none
 | .bool b,v=>v=.bool b
 | .int i,v=>∃t,v=.int i t
 | .str s,v=>∃t,v=.str s t
 | .bytes l,v=>∃b t,v=.bytes b t/\l=b.toList.map fun x=>(x.toNat:Int)
 | .ref a,v=>v=.ref a
 | .typ n,v=>v=.type n
 | .Ak a b c,v=>∃r t u w,v=.ref r/\r≠LL/\IsRange h r a b c t u w
 | .tup l,v=>∃a vs,v=.ref a/\a≠LL/\gJ h a (c9 vs)/\qv h l vs
def qv(h:bp):List V->List ai->Prop
 |[],vs=>vs=[]
 |x::xs,vs=>∃v Jn,vs=v::Jn/\VR h x v/\qv h xs Jn
end
def Tp(o:Obj):Prop:=(o.cls=.type "tuple"\/o.cls=.type "range")/\(match o.data with| .dict .. =>False| .cell _=>False|_=>True)
def pY(h h':bp):Prop:=∀a o,a≠LL->h.get? a=some o->Tp o->h'.get? a=some o
theorem pY.tup{h h':bp}(k:pY h h'){a it}(g:a≠LL)(t:gJ h a it):gJ h' a it:=t.imp fun o z=>⟨k a o g z.1 ⟨.inl z.2.1,z.2.2.elim fun n hd=>hd▸trivial⟩,z.2⟩
theorem pY.of{h h':bp}(k:∀b o,b≠LL->h.get? b=some o->h'.get? b=some o):pY h h':=fun a o g e J=>k a o g e
theorem pY.refl(h:bp):pY h h:=fun J J J e J=>e
theorem pY.trans{h h' yu:bp}(x:pY h h')(y:pY h' yu):pY h yu:=fun a o g e c=>y a o g (x a o g e c) c
theorem VR.mono{h h':bp}(k:pY h h'){x:V}:∀{v:ai},VR h x v->VR h' x v:=by exact V.rec (motive_1:=fun x=>∀{v},VR h x v->VR h' x v) (motive_2:=fun x=>∀{v},qv h x v->qv h' x v) id id (fun J=>id) (fun J=>id) (fun J=>id) (fun J=>id) (fun J=>id) (fun J=>id) (fun J J J=>c6 fun a=>c6 fun t=>c6 fun u=>c6 fun w z=>⟨z.1,z.2.1,k _ _ z.2.1 z.2.2 ⟨.inr rfl,trivial⟩⟩) (fun J ih=>c6 fun a=>c6 fun u z=>⟨z.1,z.2.1,k.tup z.2.1 z.2.2.1,ih z.2.2.2⟩) id (fun J J ih i2=>c6 fun a=>c6 fun u z=>⟨z.1,ih z.2.1,i2 z.2.2⟩) x
theorem qv.ind{h:bp}{P:List V->List ai->Prop}(n:P [] [])(c:∀{x v xs vs},VR h x v->qv h xs vs->P xs vs->P (x::xs) (v::vs)){x:List V}:∀{v:List ai},qv h x v->P x v:=by
 induction x with
 |nil=>exact fun r=>r▸n
 |cons x xs ih=>exact fun r=>by obtain⟨v,vs,rfl,a,b⟩:=r;exact c a b (ih b)
theorem qv.mono{h h':bp}(k:pY h h'){x:List V}{v:List ai}(r:qv h x v):qv h' x v:=r.ind (P:=qv h') rfl fun a J b=>⟨_,_,rfl,a.mono k,b⟩
theorem qv.length{h:bp}{x:List V}{v:List ai}(r:qv h x v):v.length=x.length:=r.ind (P:=fun x v=>v.length=x.length) rfl fun J J=>congrArg (· +1)
theorem qv.get{h:bp}{y:V}{x:List V}{v:List ai}{i:Nat}(r:qv h x v):x[i]? =some y->∃u,v[i]? =some u/\VR h y u:=
 r.ind (P:=fun x v=>∀i,x[i]? =some y->∃u,v[i]? =some u/\VR h y u) (fun J e=>nomatch (e:none=some y)) (fun a J ih i=>by
  induction i using bz with
  |zero=>exact fun e=>⟨_,rfl,au e▸a⟩
  |succ i=>exact ih i) i
theorem qv.append{h:bp}{x y:List V}{v u:List ai}(r:qv h x v)(q:qv h y u):qv h (x++y) (v++u):=r.ind (P:=fun x v=>qv h (x++y) (v++u)) q fun a J b=>⟨_,_,rfl,a,b⟩
theorem qv.drop{h:bp}{x:List V}{v:List ai}(n:Nat)(r:qv h x v):qv h (x.drop n) (v.drop n):=r.ind (P:=fun x v=>∀n,qv h (x.drop n) (v.drop n)) (fun n=>by cases n<;>rfl) (fun a b ih n=>by
 induction n with
 |zero=>exact⟨_,_,rfl,a,b⟩
 |succ n=>exact ih n) n
theorem qv.take{h:bp}{x:List V}{v:List ai}(n:Nat)(r:qv h x v):qv h (x.take n) (v.take n):=r.ind (P:=fun x v=>∀n,qv h (x.take n) (v.take n)) (fun n=>by cases n<;>rfl) (fun a b ih n=>by
 induction n with
 |zero=>rfl
 |succ n=>exact⟨_,_,rfl,a,ih n⟩) n
def FR(P:aq)(h:bp):List (Nat×V)->List DictEntry->Prop
 |[],es=>es=[]
 |(k,x)::f,es=>k<76/\∃t v tK,es=⟨fu P (AT k),.str (AT k) t,v⟩::tK/\VR h x v/\FR P h f tK
def DR(h:bp)(hs:Int->Int):List (Int×V)->List DictEntry->Prop
 |[],es=>es=[]
 |(k,x)::f,es=>∃t v tK,es=⟨hs k,.int k t,v⟩::tK/\VR h x v/\DR h hs f tK
theorem FR.ind{P:aq}{h:bp}{M:List (Nat×V)->List DictEntry->Prop}(n:M [] [])(c:∀{k x t v f es},k<76->VR h x v->FR P h f es->M f es->M ((k,x)::f) (⟨fu P (AT k),.str (AT k) t,v⟩::es)){f:List (Nat×V)}:∀{es:List DictEntry},FR P h f es->M f es:=by
 induction f with
 |nil=>exact fun r=>r▸n
 |cons x xs ih=>exact fun z8=>by obtain⟨t,v,es,rfl,a,b⟩:=z8.2;exact c z8.1 a b (ih b)
theorem DR.ind{h:bp}{hs:Int->Int}{M:List (Int×V)->List DictEntry->Prop}(n:M [] [])(c:∀{k x t v f es},VR h x v->DR h hs f es->M f es->M ((k,x)::f) (⟨hs k,.int k t,v⟩::es)){f:List (Int×V)}:∀{es:List DictEntry},DR h hs f es->M f es:=by
 induction f with
 |nil=>exact fun r=>r▸n
 |cons x xs ih=>exact fun r=>by obtain⟨t,v,es,rfl,a,b⟩:=r;exact c a b (ih b)
theorem FR.mono{P:aq}{h h':bp}(k:pY h h'){f:List (Nat×V)}{es:List DictEntry}(r:FR P h f es):FR P h' f es:=r.ind (M:=FR P h') rfl fun a b J c=>⟨a,_,_,_,rfl,b.mono k,c⟩
theorem DR.mono{hs:Int->Int}{h h':bp}(k:pY h h'){f:List (Int×V)}{es:List DictEntry}(r:DR h hs f es):DR h' hs f es:=r.ind (M:=DR h' hs) rfl fun b J c=>⟨_,_,_,rfl,b.mono k,c⟩
def OR(P:aq)(h:bp)(a:Addr):O->Prop
 | .list l=>∃vs n,h.get? a=some (listOf (c9 vs) n)/\qv h l vs
 | .dict es ep=>∃qQ n,h.get? a=some (gG qQ n)/\DR h PySem.hashInt es qQ/\((es.map ar).Nodup/\n=ep)
 | .rl l vs n=>h.get? a=some (listOf (c9 vs) n)/\qv h l vs
 | .inst C f=>∃d qQ n,h.get? a=some (gu C d)/\h.get? d=some (gG qQ n)/\FR P h f qQ
end
end
section
variable[Inhabited Tg]
def dictAt(h:bp)(a d:Addr):Prop:=∃o,h.get? a=some o/\o.dict=some d
def Own(H:MH)(h:bp)(b:Addr):Prop:=H b≠none\/∃a C f,H a=some (.inst C f)/\dictAt h a b
structure Bs where
 get:Addr->Option Obj
 mg:PySem.Str->Option ai
 cls:Addr->Prop
structure Rel(P:aq)(B:Bs)(H:MH)(h:bp):Prop where
 obj:∀a o,H a=some o->OR P h a o
 base:∀b o,B.get b=some o->h.get? b=some o/\¬Own H h b
 glob:h.Ns LL B.mg
 uT:¬Own H h LL
 Ap:B.get LL=none
 sep:∀a C f d,H a=some (.inst C f)->dictAt h a d->H d=none
 inj:∀a b C f C' f' d,H a=some (.inst C f)->H b=some (.inst C' f')->dictAt h a d->dictAt h b d->a=b
 good:∀a C f,H a=some (.inst C f)->B.cls C
section
variable{P:aq}{B:Bs}{h h':bp}{H:MH}{a b d:Addr}{o:O}
theorem dictAt.det(x:dictAt h a d)(y:dictAt h a d'):d=d':=by obtain⟨o,Jo⟩:=x;obtain⟨o',e',q'⟩:=y;rw[Jo.1]at e';obtain rfl:=au e';rw[Jo.2]at q';obtain rfl:=au q';rfl
theorem OR.dict(r:OR P h a (.inst C f)):∃d,dictAt h a d:=let ⟨d,_,_,z7⟩:=r;⟨d,_,z7.1,rfl⟩
theorem OR.there(r:OR P h a o):∃x,h.get? a=some x:=by
 induction o using O.casesOn with
 |list l=>obtain⟨vs,n,e,_⟩:=r;exact⟨_,e⟩
 |rl l vs n=>exact⟨_,r.1⟩
 |dict l ep=>obtain⟨vs,n,e,_⟩:=r;exact⟨_,e⟩
 |inst C f=>obtain⟨d,es,n,e,_⟩:=r;exact⟨_,e⟩
theorem Rel.lt(R:Rel P B H h)(e:H a=some o):a<h.objs.size:=let ⟨_,q⟩:=(R.obj a o e).there;br q
theorem Rel.dlt(R:Rel P B H h)(e:H a=some (.inst C f))(q:dictAt h a d):d<h.objs.size:=by obtain⟨d',es,n,CH⟩:=R.obj _ _ e;obtain rfl:=dictAt.det q ⟨_,CH.1,rfl⟩;exact br CH.2.1
theorem Rel.fresh(R:Rel P B H h)(q:h.objs.size<=a):H a=none:=by
 cases e:H a with
 |none=>rfl
 |some o=>exact absurd (R.lt e) (b8.mpr q)
theorem Rel.Q3(R:Rel P B H h)(q:h.get? a=none):H a=none:=by
 cases e:H a with
 |none=>rfl
 |some o=>obtain⟨x,ex⟩:=(R.obj _ _ e).there;rw[q]at ex;exact Z.nS ex
theorem Rel.Q4(R:Rel P B H h)(e:H a=some (.inst C f))(q:dictAt h a d):∃x,h.get? d=some x:=by obtain⟨d',es,n,CH⟩:=R.obj _ _ e;obtain rfl:=dictAt.det q ⟨_,CH.1,rfl⟩;exact⟨_,CH.2.1⟩
theorem Rel.Jp(R:Rel P B H h)(x:Own H h b):b<h.objs.size:=by
 rcases x with x|⟨a,C,f,e,q⟩
 ·cases e:H b with
  |none=>exact absurd e x
  |some o=>exact R.lt e
 ·exact R.dlt e q
theorem Rel.FZ(R:Rel P B H h)(x:Own H h b){o:Obj}(e:h.get? b=some o):o.cls=.type "list"\/o.cls=.type "dict"\/∃C,o.cls=.ref C:=by
 rcases x with x|⟨a,C,f,ea,q⟩
 ·cases eb:H b with
  |none=>exact absurd eb x
  |some w=>
   have r:=R.obj b w eb;induction w using O.casesOn with
   |list l=>obtain⟨vs,n,e',_⟩:=r;rw[e]at e';obtain rfl:=au e';exact .inl rfl
   |rl l vs n=>have e':=r.1;rw[e]at e';obtain rfl:=au e';exact .inl rfl
   |dict l ep=>obtain⟨vs,n,e',_⟩:=r;have e':=e▸e';obtain rfl:=au e';exact .inr (.inl rfl)
   |inst C f=>obtain⟨d,es,n,e',_⟩:=r;have e':=e▸e';obtain rfl:=au e';exact .inr (.inr ⟨C,rfl⟩)
 ·obtain⟨d',es,n,CH⟩:=R.obj _ _ ea;obtain rfl:=dictAt.det q ⟨_,CH.1,rfl⟩;have e2:=CH.2.1;have e2:=e▸e2;obtain rfl:=au e2;exact .inr (.inl rfl)
theorem Rel.vU(R:Rel P B H h){x:Obj}(e:h.get? b=some x)(c:Tp x):¬Own H h b:=fun o=>by replace c:=c.1;rcases R.FZ o e with q|q|⟨C,q⟩<;>rcases c with c|c<;>rw[c]at q<;>simp at q
theorem OR.mono(k:pY h h')(e:∀x,h.get? a=some x->h'.get? a=some x)(ed:∀C f d x,o=.inst C f->dictAt h a d->h.get? d=some x->h'.get? d=some x)(r:OR P h a o):OR P h' a o:=by
 induction o using O.casesOn with
 |list l=>obtain⟨vs,n,e',q⟩:=r;exact⟨vs,n,e _ e',qv.mono k q⟩
 |rl l vs n=>exact⟨e _ r.1,qv.mono k r.2⟩
 |dict l ep=>obtain⟨vs,n,e',q,nd⟩:=r;exact⟨vs,n,e _ e',DR.mono k q,nd⟩
 |inst C f=>obtain⟨d,es,n,e',e2,q⟩:=r;exact⟨d,es,n,e _ e',ed C f d _ rfl ⟨_,e',rfl⟩ e2,FR.mono k q⟩
theorem Rel.Jq(R:Rel P B H h)(k:∀b o,Own H h b->h.get? b=some o->h'.get? b=some o)(kt:pY h h')
  (kb:∀b o,B.get b=some o->h.get? b=some o->h'.get? b=some o)(kg:h'.Ns LL B.mg):Rel P B H h':=by
 have da:∀a C f d,H a=some (.inst C f)->dictAt h' a d->dictAt h a d:=fun a C f d e q=>by obtain⟨o,eo⟩:=(R.obj _ _ e).there;obtain⟨o',e',q'⟩:=q;have:=k a o (.inl (by rw[e];exact fun z=>by cases z)) eo;rw[this]at e';obtain rfl:=au e';exact⟨o,eo,q'⟩
 have ow:∀b,Own H h' b->Own H h b:=fun b x=>x.imp id fun⟨a,C,f,e,q⟩=>⟨a,C,f,e,da _ _ _ _ e q⟩;refine⟨fun a o e=>?_,fun b o e=>⟨kb b o e (R.base b o e).1,fun x=>(R.base b o e).2 (ow b x)⟩,kg,fun x=>R.uT (ow _ x),R.Ap,fun a C f d e q=>R.sep a C f d e (da _ _ _ _ e q),fun a b C f C' f' d e1 e2 q1 q2=>R.inj a b C f C' f' d e1 e2 (da _ _ _ _ e1 q1) (da _ _ _ _ e2 q2),R.good⟩;exact OR.mono kt (fun x ex=>k a x (.inl (by rw[e];exact fun z=>by cases z)) ex) (fun C f d x eo q ed=>k d x (.inr ⟨a,C,f,by rw[e,eo],q⟩) ed) (R.obj a o e)
theorem Rel.ext3(R:Rel P B H h)(k:∀b o,b≠LL->h.get? b=some o->h'.get? b=some o)(kg:h'.Ns LL B.mg):Rel P B H h':=
 R.Jq (fun b o x=>k b o fun z=>R.uT (z▸x)) (pY.of k) (fun b o e=>k b o fun z=>by rw[z,R.Ap]at e;exact Z.nS e) kg
theorem Rel.ext(R:Rel P B H h)(k:∀b o,h.get? b=some o->h'.get? b=some o):Rel P B H h':=R.ext3 (fun b o J=>k b o) (R.glob.keeps k)
theorem pY.but(hs:∀b o,b≠L->h.get? b=some o->h'.get? b=some o)(hL:∀o,h.get? L=some o->¬Tp o):pY h h':=fun a o J e c=>
 hs a o (fun z=>hL o (z▸e) c) e
theorem Rel.but(R:Rel P B H h)(hn:¬Own H h L)(hB:B.get L=none)(hg:L≠LL)(hL:∀o,h.get? L=some o->¬Tp o)(hs:∀b o,b≠L->h.get? b=some o->h'.get? b=some o):Rel P B H h':=
 R.Jq (fun b o x e=>hs b o (fun z=>hn (z▸x)) e) (pY.but hs hL) (fun b o e q=>hs b o (fun z=>by have e:=z▸e;have e:=hB▸e;exact Z.nS e) q) (R.glob.extBut hs (Ne.symm hg))
def O.rP:O->Prop
 | .inst _ _=>False
 |_=>True
theorem Rel.put(R:Rel P B H h)(sC:H a=some Hn)(Ho:Hn.rP)(n:o.rP)(hs:∀b x,b≠a->b≠LL->h.get? b=some x->h'.get? b=some x)(kg:h'.Ns LL B.mg)(hr:OR P h' a o):Rel P B (H.upd a o) h':=by
 have oa:Own H h a:=.inl (by rw[sC];exact fun z=>by exact nomatch z);have kt:pY h h':=fun b o g e c=>hs b o (fun z=>R.vU e c (z▸oa)) g e;have h3:∀b C g,H b=some (.inst C g)->b≠LL:=fun b C' g e z=>R.uT (z▸.inl (by rw[e];exact fun q=>by exact nomatch q));have hi:∀b C f,(H.upd a o) b=some (.inst C f)->b≠a/\H b=some (.inst C f):=fun b C f e=>by
  unfold MH.upd at e;split at e
  ·obtain rfl:=au e;exact n.elim
  ·exact⟨by assumption,e⟩
 have da:∀b C f d,b≠a->H b=some (.inst C f)->dictAt h' b d->dictAt h b d:=fun b C f d hb e q=>by obtain⟨x,ex⟩:=(R.obj _ _ e).there;obtain⟨x',e',q'⟩:=q;rw[hs b x hb (h3 _ _ _ e) ex]at e';obtain rfl:=au e';exact⟨x,ex,q'⟩
 have ow:∀b,Own (H.upd a o) h' b->Own H h b:=fun b x=>by
  rcases x with x|⟨c,C,f,e,q⟩
  ·by_cases hb:b=a
   ·exact hb▸oa
   ·exact .inl (by unfold MH.upd at x;rwa[if_neg hb]at x)
  ·obtain⟨h1,h2⟩:=hi _ _ _ e;exact .inr ⟨c,C,f,h2,da _ _ _ _ h1 h2 q⟩
 refine⟨fun b x e=>?_,fun b x e=>?_,kg,fun x=>R.uT (ow _ x),R.Ap,fun b C f d e q=>?_,fun b c C f C' f' d e1 e2 q1 q2=>?_,fun b C f e=>R.good b C f (hi _ _ _ e).2⟩
 ·by_cases hb:b=a
  ·subst hb;unfold MH.upd at e;rw[if_pos rfl]at e;obtain rfl:=au e;exact hr
  ·unfold MH.upd at e;have e:=(if_neg hb)▸e;exact OR.mono kt (fun y=>hs b y hb (fun z=>R.uT (z▸.inl (by rw[e];exact fun q=>by exact nomatch q)))) (fun C f d y eo q ed=>hs d y (fun z=>by have:=R.sep b C f d (by rw[e,eo]) q;rw[z,sC]at this;exact nomatch this) (fun z=>R.uT (z▸.inr ⟨b,C,f,by rw[e,eo],q⟩)) ed) (R.obj b x e)
 ·have:=R.base b x e;exact⟨hs b x (fun z=>this.2 (z▸oa)) (fun z=>by rw[z,R.Ap]at e;exact Z.nS e) this.1,fun y=>this.2 (ow b y)⟩
 ·obtain⟨h1,h2⟩:=hi _ _ _ e;have:=R.sep b C f d h2 (da _ _ _ _ h1 h2 q);unfold MH.upd;rw[if_neg (fun z=>by rw[z,sC]at this;exact nomatch this)];exact this
 ·obtain⟨h1,h2⟩:=hi _ _ _ e1;obtain⟨h3,h4⟩:=hi _ _ _ e2;exact R.inj b c C f C' f' d h2 h4 (da _ _ _ _ h1 h2 q1) (da _ _ _ _ h3 h4 q2)
theorem Rel.Ng(R:Rel P B H h)(sC:H a=some (.inst C f))(hd:dictAt h a d)(hs:∀b x,b≠d->b≠LL->h.get? b=some x->h'.get? b=some x)(kg:h'.Ns LL B.mg)
  (hr:h'.get? d=some (gG qQ n))(hf:FR P h' f' qQ):Rel P B (H.upd a (.inst C f')) h':=by
 obtain⟨d',es,m,e1,e2,q2⟩:=R.obj _ _ sC;obtain rfl:=dictAt.det hd ⟨_,e1,rfl⟩;have Q5:a≠d:=fun z=>by have:=R.sep a C f d sC hd;rw[<-z,sC]at this;exact nomatch this
 have kt:pY h h':=fun a o g e c=>hs a o (fun z=>by subst z;rw[e]at e2;obtain rfl:=au e2;exact(c.2:False).elim) g e;have h3:∀b C' g,H b=some (.inst C' g)->b≠LL:=fun b C' g e z=>R.uT (z▸.inl (by rw[e];exact fun q=>by exact nomatch q));have hi:∀b C' g,(H.upd a (.inst C f')) b=some (.inst C' g)->∃g',H b=some (.inst C' g'):=fun b C' g e=>by
  unfold MH.upd at e;split at e
  ·rename_i z;subst z;cases e;exact⟨f,sC⟩
  ·exact⟨g,e⟩
 have Hq:∀b C' g,H b=some (.inst C' g)->b≠d:=fun b C' g e z=>by have:=R.sep a C f d sC hd;rw[<-z,e]at this;exact nomatch this
 have da:∀b C' g c,H b=some (.inst C' g)->dictAt h' b c->dictAt h b c:=fun b C' g c e q=>by obtain⟨x,ex⟩:=(R.obj _ _ e).there;obtain⟨x',e',q'⟩:=q;rw[hs b x (Hq _ _ _ e) (h3 _ _ _ e) ex]at e';obtain rfl:=au e';exact⟨x,ex,q'⟩
 have hno:∀b,(H.upd a (.inst C f')) b=none↔H b=none:=fun b=>by
  unfold MH.upd;split
  ·rename_i z;subst z;rw[sC];exact⟨fun z=>(by exact nomatch z),fun z=>(by exact nomatch z)⟩
  ·exact Iff.rfl
 have ow:∀b,Own (H.upd a (.inst C f')) h' b->Own H h b:=fun b x=>by
  rcases x with x|⟨c,C',g,e,q⟩
  ·exact .inl fun z=>x ((hno b).mpr z)
  ·obtain⟨g',e'⟩:=hi _ _ _ e;exact .inr ⟨c,C',g',e',da _ _ _ _ e' q⟩
 refine⟨fun b x e=>?_,fun b x e=>?_,kg,fun x=>R.uT (ow _ x),R.Ap,fun b C' g c e q=>?_,fun b c C1 f1 C2 f2 c' e1 e2 q1 q2=>?_,fun b C' g e=>let ⟨g',e'⟩:=hi _ _ _ e;R.good b C' g' e'⟩
 ·by_cases hb:b=a
  ·subst hb;unfold MH.upd at e;rw[if_pos rfl]at e;obtain rfl:=au e;exact⟨d,qQ,n,hs b _ Q5 (h3 _ _ _ sC) e1,hr,hf⟩
  ·unfold MH.upd at e;rw[if_neg hb]at e;refine OR.mono kt (fun y ey=>hs b y (fun z=>?_) (fun z=>R.uT (z▸.inl (by rw[e];exact fun q=>by exact nomatch q))) ey) (fun C' g c y eo q ed=>hs c y (fun z=>?_) (fun z=>R.uT (z▸.inr ⟨b,C',g,by rw[e,eo],q⟩)) ed) (R.obj b x e)
   ·have:=R.sep a C f d sC hd;rw[<-z,e]at this;cases this
   ·subst z;exact hb (R.inj b a C' g C f c (by rw[e,eo]) sC q hd)
 ·have:=R.base b x e;exact⟨hs b x (fun z=>this.2 (.inr ⟨a,C,f,sC,z▸hd⟩)) (fun z=>by rw[z,R.Ap]at e;cases e) this.1,fun y=>this.2 (ow b y)⟩
 ·obtain⟨g',e'⟩:=hi _ _ _ e;exact(hno c).mpr (R.sep b C' g' c e' (da _ _ _ _ e' q))
 ·obtain⟨g1,e1'⟩:=hi _ _ _ e1;obtain⟨g2,e2'⟩:=hi _ _ _ e2;exact R.inj b c C1 g1 C2 g2 c' e1' e2' (da _ _ _ _ e1' q1) (da _ _ _ _ e2' q2)
theorem Rel.Eu(R:Rel P B H h)(hl:h.get? a=none)(n:o.rP)(k:∀b x,b≠LL->h.get? b=some x->h'.get? b=some x)(kg:h'.Ns LL B.mg)(hr:OR P h' a o):Rel P B (H.upd a o) h':=by
 have R':=R.ext3 k kg;have hi:∀b C f,(H.upd a o) b=some (.inst C f)->b≠a/\H b=some (.inst C f):=fun b C f e=>by
  unfold MH.upd at e;split at e
  ·obtain rfl:=au e;exact n.elim
  ·exact⟨by assumption,e⟩
 have da:∀b C f d,H b=some (.inst C f)->dictAt h' b d->d≠a:=fun b C f d e q z=>by obtain⟨d',q'⟩:=(R.obj _ _ e).dict;have:dictAt h' b d':=let ⟨x,z7⟩:=q';have e1:=z7.1;have e2:=z7.2;⟨x,k _ _ (fun z=>R.uT (z▸(.inl (e▸(fun y=>by exact nomatch y))))) e1,e2⟩;obtain rfl:=dictAt.det q this;obtain⟨x,ex⟩:=R.Q4 e q';rw[z,hl]at ex;exact Z.nS ex
 have ow:∀b x,h.get? b=some x->Own (H.upd a o) h' b->Own H h' b:=fun b x lb y=>by
  rcases y with y|⟨c,C,f,ec,q⟩
  ·by_cases hb:b=a
   ·rw[hb,hl]at lb;exact Z.nS lb
   ·exact .inl (by unfold MH.upd at y;rwa[if_neg hb]at y)
  ·exact .inr ⟨c,C,f,(hi _ _ _ ec).2,q⟩
 refine⟨fun b x e=>?_,fun b x e=>⟨(R'.base b x e).1,fun y=>(R'.base b x e).2 (ow b x (R.base b x e).1 y)⟩,R'.glob,fun x=>let ⟨o,_,_,z7⟩:=R.glob;have e:=z7.1;R'.uT (ow _ o e x),R.Ap,fun b C f d e q=>?_,fun b c C f C' f' d e1 e2 q1 q2=>?_,fun b C f e=>R.good b C f (hi _ _ _ e).2⟩
 ·by_cases hb:b=a
  ·subst hb;unfold MH.upd at e;rw[if_pos rfl]at e;obtain rfl:=au e;exact hr
  ·unfold MH.upd at e;rw[if_neg hb]at e;exact R'.obj b x e
 ·unfold MH.upd;exact(if_neg (da _ _ _ _ (hi _ _ _ e).2 q))▸(R'.sep b C f d (hi _ _ _ e).2 q)
 ·exact R'.inj b c C f C' f' d (hi _ _ _ e1).2 (hi _ _ _ e2).2 q1 q2
theorem Rel.v9(R:Rel P B H h)(hl:h.objs.size<=a)(n:o.rP)(k:∀b x,b≠LL->h.get? b=some x->h'.get? b=some x)(kg:h'.Ns LL B.mg)(hr:OR P h' a o):Rel P B (H.upd a o) h':=R.Eu (dO hl) n k kg hr
theorem Rel.VI(R:Rel P B H h)(hC:B.cls C)(hl:h.objs.size<=a)(hd:h.objs.size<=d)(had:a≠d)(k:∀b x,h.get? b=some x->h'.get? b=some x)(hx:dictAt h' a d)(hr:OR P h' a (.inst C f)):Rel P B (H.upd a (.inst C f)) h':=by
 have R':=R.ext k;have hnd:H d=none:=R.fresh hd;have lo:∀b C f c,H b=some (.inst C f)->dictAt h' b c->c<h.objs.size:=fun b C f c e q=>by obtain⟨d',q'⟩:=(R.obj _ _ e).dict;have:dictAt h' b d':=let ⟨x,e1,e2⟩:=q';⟨x,k _ _ e1,e2⟩;obtain rfl:=dictAt.det q this;exact R.dlt e q'
 have hi:∀b C' g,(H.upd a (.inst C f)) b=some (.inst C' g)->b=a\/(b≠a/\H b=some (.inst C' g)):=fun b C' g e=>by
  unfold MH.upd at e;split at e
  ·exact .inl (by assumption)
  ·exact .inr ⟨by assumption,e⟩
 have ow:∀b,b<h.objs.size->Own (H.upd a (.inst C f)) h' b->Own H h' b:=fun b lb y=>by
  rcases y with y|⟨c,C',g,ec,q⟩
  ·by_cases hb:b=a
   ·exact absurd lb (b8.mpr (hb▸hl))
   ·exact .inl (by unfold MH.upd at y;rwa[if_neg hb]at y)
  ·rcases hi _ _ _ ec with z|⟨_,z⟩
   ·subst z;obtain rfl:=dictAt.det q hx;exact absurd lb (b8.mpr hd)
   ·exact .inr ⟨c,C',g,z,q⟩
 refine⟨fun b x e=>?_,fun b x e=>⟨(R'.base b x e).1,fun y=>(R'.base b x e).2 (ow b (br (R.base b x e).1) y)⟩,R'.glob,fun x=>R'.uT (ow _ R.glob.lt x),R.Ap,fun b C' g c e q=>?_,fun b c C1 f1 C2 f2 c' e1 e2 q1 q2=>?_,fun b C' g e=>?_⟩
 ·by_cases hb:b=a
  ·subst hb;unfold MH.upd at e;rw[if_pos rfl]at e;obtain rfl:=au e;exact hr
  ·unfold MH.upd at e;rw[if_neg hb]at e;exact R'.obj b x e
 ·unfold MH.upd;repeat first|clear C|clear f|clear k|clear hr|clear ow|clear lb|clear y|clear x|clear d'|clear q'|clear ec
  rcases hi _ _ _ e with z|⟨_,z⟩
  ·subst z;obtain rfl:=dictAt.det q hx;refine(if_neg (Ne.symm had))▸?_;exact hnd
  ·have lq:=lo _ _ _ _ z q;exact(if_neg (fun(w:c=a)=>absurd lq (b8.mpr (w▸hl))))▸(R'.sep b C' g c z q)
 ·rcases hi _ _ _ e1 with z|⟨_,z⟩
  ·subst z;repeat first|clear C|clear f|clear hl|clear had|clear k|clear hr|clear hnd|clear ow|clear lq|clear q|clear lb|clear y|clear x|clear e1|clear d'|clear q'|clear ec
   obtain rfl:=dictAt.det q1 hx;rcases hi _ _ _ e2 with w|⟨_,w⟩
   ·exact w.symm
   ·exact absurd (lo _ _ _ _ w q2) (b8.mpr hd)
  ·rcases hi _ _ _ e2 with w|⟨_,w⟩
   ·subst w;obtain rfl:=dictAt.det q2 hx;exact absurd (lo _ _ _ _ z q1) (b8.mpr hd)
   ·exact R'.inj b c C1 f1 C2 f2 c' z w q1 q2
 ·rcases hi _ _ _ e with z|⟨_,z⟩
  ·subst z;unfold MH.upd at e;have e:=(if_pos rfl)▸e;cases e;exact hC
  ·exact R.good b C' g z
def CI(X:Addr->Prop)(B:Bs)(H:MH)(h:bp):Bs:=open Classical in ⟨fun b=>if Own H h b\/X b\/b=LL then none else h.get? b,B.mg,B.cls⟩
theorem Jr{o:Obj}(e:h.get? b=some o)(n:¬Own H h b)(x:¬X b)(g:b≠LL):(CI X B H h).get b=some o:=by unfold CI;dsimp only;rw[if_neg (fun z=>z.elim n fun z=>z.elim x g)];exact e
theorem Rel.max(R:Rel P B H h)(X:Addr->Prop):Rel P (CI X B H h) H h:=⟨R.obj,fun b o e=>by
 unfold CI at e
 dsimp only at e
 split at e
 ·exact Z.nS e
 ·rename_i q;exact⟨e,fun x=>q (.inl x)⟩,R.glob,R.uT,by unfold CI;simp,R.sep,R.inj,R.good⟩
structure Nx(X:Addr->Prop)(H:MH)(s:Shared)(H':MH)(s':Shared):Prop where
 keep:∀b o,b≠LL->¬X b->s.heap.get? b=some o->¬Own H s.heap b->s'.heap.get? b=some o/\¬Own H' s'.heap b
 qb:pY s.heap s'.heap
 gens:s'.gens=s.gens
 drawn:s'.drawn=s.drawn
 os:s'.os=s.os
theorem Nx.refl(X:Addr->Prop)(H:MH)(s:Shared):Nx X H s H s:=⟨fun J J J J e o=>⟨e,o⟩,pY.refl _,rfl,rfl,rfl⟩
theorem Nx.trans(x:Nx X H s H' s')(y:Nx X H' s' VJ s''):Nx X H s VJ s'':=
 ⟨fun b o g n e q=>let z:=x.keep b o g n e q;y.keep b o g n z.1 z.2,x.qb.trans y.qb,y.gens.trans x.gens,y.drawn.trans x.drawn,y.os.trans x.os⟩
theorem Nx.tok(X:Addr->Prop)(H:MH)(s:Shared)(t:Nat):Nx X H s H {s with toks:=t}:=⟨fun J J J J e o=>⟨e,o⟩,pY.refl _,rfl,rfl,rfl⟩
theorem Nx.weak(x:Nx X H s H' s')(h:∀b,X b->Y b):Nx Y H s H' s':=⟨fun b o g n=>x.keep b o g fun z=>n (h b z),x.qb,x.gens,x.drawn,x.os⟩
def X0:Addr->Prop:=fun J=>False
theorem Nx.qR{X:Addr->Prop}(R':Rel P (CI X B H s.heap) H' h')(st:pY s.heap h'):Nx X H s H' {s with heap:=h',toks:=t}:=
 ⟨fun b o g n e q=>R'.base b o (Jr e q n g),st,rfl,rfl,rfl⟩
inductive p6(P:aq)(B:Bs)(H:MH)(s:Shared)(Q:V->MH->Prop)(v:ai)(s':Shared):Prop where|mk (x:V) (H':MH) (r:VR s'.heap x v) (R:Rel P B H' s'.heap) (N:Nx X0 H s H' s') (q:Q x H')
inductive Eo(P:aq)(B:Bs)(H:MH)(s:Shared)(Q:MH->Prop)(s':Shared):Prop where|mk (H':MH) (R:Rel P B H' s'.heap) (N:Nx X0 H s H' s') (q:Q H')
section
variable{s:Shared}{t:Nat}{Q:V->MH->Prop}{x:V}{v:ai}
theorem p6.tok(R:Rel P B H s.heap)(r:VR s.heap x v)(q:Q x H):p6 P B H s Q v {s with toks:=t}:=⟨x,H,r,R,Nx.tok _ _ _ _,q⟩
theorem p6.here(R:Rel P B H s.heap)(r:VR s.heap x v)(q:Q x H):p6 P B H s Q v s:=⟨x,H,r,R,Nx.refl _ _ _,q⟩
theorem p6.ext3(R:Rel P B H s.heap)(k:∀b o,b≠LL->s.heap.get? b=some o->h'.get? b=some o)(kg:h'.Ns LL B.mg)(r:VR h' x v)(q:Q x H):p6 P B H s Q v {s with heap:=h',toks:=t}:=
 ⟨x,H,r,R.ext3 k kg,Nx.qR ((R.max X0).ext3 k kg) (pY.of k),q⟩
theorem p6.ext(R:Rel P B H s.heap)(k:∀b o,s.heap.get? b=some o->h'.get? b=some o)(r:VR h' x v)(q:Q x H):p6 P B H s Q v {s with heap:=h',toks:=t}:=p6.ext3 R (fun b o J=>k b o) (R.glob.keeps k) r q
theorem p6.v9(R:Rel P B H s.heap)(n:o.rP)(hl:s.heap.objs.size<=a)(k:∀b x,b≠LL->s.heap.get? b=some x->h'.get? b=some x)(kg:h'.Ns LL B.mg)(hr:OR P h' a o)
  (q:∀a,H a=none->Q (.ref a) (H.upd a o)):p6 P B H s Q (.ref a) {s with heap:=h',toks:=t}:=
 ⟨.ref a,_,rfl,R.v9 hl n k kg hr,Nx.qR ((R.max X0).v9 hl n k kg hr) (pY.of k),q a (R.fresh hl)⟩
theorem p6.Eu(R:Rel P B H s.heap)(n:o.rP)(hl:s.heap.get? a=none)(k:∀b x,b≠LL->s.heap.get? b=some x->h'.get? b=some x)(kg:h'.Ns LL B.mg)(hr:OR P h' a o)
  (q:∀a,H a=none->Q (.ref a) (H.upd a o)):p6 P B H s Q (.ref a) {s with heap:=h',toks:=t}:=
 ⟨.ref a,_,rfl,R.Eu hl n k kg hr,Nx.qR ((R.max X0).Eu hl n k kg hr) (pY.of k),q a (R.Q3 hl)⟩
theorem p6.new(R:Rel P B H s.heap)(n:o.rP)(hl:s.heap.objs.size<=a)(k:∀b x,s.heap.get? b=some x->h'.get? b=some x)(hr:OR P h' a o)
  (q:∀a,H a=none->Q (.ref a) (H.upd a o)):p6 P B H s Q (.ref a) {s with heap:=h',toks:=t}:=p6.v9 R n hl (fun b o J=>k b o) (R.glob.keeps k) hr q
noncomputable def CJ(h:bp):List (Addr×Obj):=(dn h.objs.size).filterMap fun b=>if b=LL then none else(h.get? b).map fun o=>(b,o)
noncomputable def rh:bp:=⟨#[],{}⟩
theorem tT(b:Addr):rh.get? b=none:=dO (bW _)
theorem Rel.fr(R:Rel P B H h):Fr rh LL h B.mg:=⟨R.glob,fun b o e=>by(rw[tT]at e;exact Z.nS e),bW _⟩
theorem Rel.news(R:Rel P B H h):jV rh LL h (CJ h):=fun p hp=>by
 obtain⟨b,hb,e⟩:=eZ.mp hp;split at e
 ·exact Z.nS e
 ·rename_i g;obtain⟨o,Js⟩:=bG.mp e;repeat first|clear R|clear p|clear hp|clear b|clear hb|clear e|clear o
  obtain rfl:=Js.2;exact⟨Js.1,g,tT _⟩
theorem Hr(N:jV rh LL h' news)(sub:∀p∈CJ h,p∈news):∀b o,b≠LL->h.get? b=some o->h'.get? b=some o:=fun b o g e=>
 (N (b,o) (sub _ (eZ.mpr ⟨b,dG.mpr (br e),by rw[if_neg g,e];rfl⟩))).1
theorem Rel.rZ(R:Rel P B H h)(sC:H a=some Hn)(hs:∀b x,b≠a->b≠LL->h.get? b=some x->h'.get? b=some x):pY h h':=by exact fun b o g e c=>hs b o (fun z=>R.vU e c (z▸(.inl (sC▸(fun z=>by exact nomatch z))))) g e
theorem p6.put(R:Rel P B H s.heap)(sC:H a=some Hn)(Ho:Hn.rP)(n:o.rP)(hs:∀b x,b≠a->b≠LL->s.heap.get? b=some x->h'.get? b=some x)(kg:h'.Ns LL B.mg)(hr:OR P h' a o)(r:VR h' x v)
  (q:Q x (H.upd a o)):p6 P B H s Q v {s with heap:=h',toks:=t}:=
 ⟨x,_,r,R.put sC Ho n hs kg hr,Nx.qR ((R.max X0).put sC Ho n hs kg hr) (R.rZ sC hs),q⟩
theorem Eo.put{Q:MH->Prop}(R:Rel P B H s.heap)(sC:H a=some Hn)(Ho:Hn.rP)(n:o.rP)(hs:∀b x,b≠a->b≠LL->s.heap.get? b=some x->h'.get? b=some x)(kg:h'.Ns LL B.mg)(hr:OR P h' a o)
  (q:Q (H.upd a o)):Eo P B H s Q {s with heap:=h',toks:=t}:=
 ⟨_,R.put sC Ho n hs kg hr,Nx.qR ((R.max X0).put sC Ho n hs kg hr) (R.rZ sC hs),q⟩
theorem Eo.Ng{Q:MH->Prop}(R:Rel P B H s.heap)(sC:H a=some (.inst C f))(hd:dictAt s.heap a d)(hs:∀b x,b≠d->b≠LL->s.heap.get? b=some x->h'.get? b=some x)(kg:h'.Ns LL B.mg)
  (hr:h'.get? d=some (gG qQ n))(hf:FR P h' f' qQ)(q:Q (H.upd a (.inst C f'))):Eo P B H s Q {s with heap:=h',toks:=t}:=
 ⟨_,R.Ng sC hd hs kg hr hf,Nx.qR ((R.max X0).Ng sC hd hs kg hr hf) (fun b o g e c=>hs b o (fun z=>R.vU e c (z▸.inr ⟨a,C,f,sC,hd⟩)) g e),q⟩
end
end
end
section
set_option genInjectivity false
set_option genSizeOf false
set_option genInjectivity false
set_option genSizeOf false
set_option genCtorIdx true in
inductive B2 where|add|sub|mul|fdiv|mod|pow
set_option genCtorIdx true in
inductive Cm where|eq|ne|lt|le|gt|ge|Aq|uh|Ep|wq
set_option genCtorIdx true in
inductive Bi where|len|abs|ord|yi|sum|max|min|list|tuple|dict|bytes|sorted|range|ri
mutual
inductive X where
 |bad
 |c(v:V)|v(i:Nat)
 |bin(o:B2)(a b:X)|neg(a:X)|no(a:X)|band(a b:X)|bor(a b:X)|ite(t a b:X)
 |cmp(o:Cm)(a b:X)|uc(o p:Cm)(a b c:X)
 |attr(a:X)(k:Nat)
 |call(f:Nat)(as:Xs)|new(C:Addr)(as:Xs)|pD(a:X)(k:Nat)(as:Xs)|blt(b:Bi)(as:Xs)
 |sub(a i:X)|Al(a lo hi:X)|rev(a:X)
 |tup(as:Xs)|lst(as:Xs)|uH(ks:List Int)(vs:Xs)
 |comp(n:Nat)(wb:List (Nat×Nat))(t:T)(src cond e:X)
 |sset(n:Nat)(wb:List (Nat×Nat))(t1:T)(s1:X)(t2:T)(s2 e:X)
inductive Xs where|nil|cons(x:X)(r:Xs)
inductive T where|v(i:Nat)|attr(o:X)(k:Nat)|sub(o i:X)|tup(ts:Ts)
inductive Ts where|nil|cons(t:T)(r:Ts)
end
mutual
inductive S where
 |pass|cont|brk
 |bad
 |expr(e:X)
 |ret(e:X)
 |asg(t:T)(e:X)
 |Ew(is:List Nat)(e:X)
 |aug(t:T)(o:B2)(e:X)
 |pT(t:X)(a b:Ss)
 |F8(t:X)(b:Ss)
 |fr(t:T)(src:X)(b:Ss)
 |UZ(t:T)(src:X)(b:Ss)
 |U0(src:X)
 |raise(C:Addr)(as:Xs)
 |VK(b:Ss)(C:Addr)(h:Ss)
inductive Ss where|nil|cons(s:S)(r:Ss)
end
inductive Fl where|next|brk|cont|ret(v:V)
structure Tb where
 init:Addr->Option Nat
 pD:Addr->Nat->Option Nat
 attr:Addr->Nat->Option V
noncomputable abbrev Loc:=List V
noncomputable abbrev QV:=V->MH->Prop
noncomputable abbrev QE:=Addr->MH->Prop
def ub:QE:=fun J J=>False
noncomputable abbrev pK:=Nat->List V->MH->QV->QE->Prop
noncomputable def getL:List V->Nat->V
 |[],_=>.rG
 |v::_,0=>v
 |_::r,n+1=>getL r n
noncomputable def vq:List V->Nat->V->List V
 |[],_,_=>[]
 |_::r,0,v=>v::r
 |x::r,n+1,v=>x::vq r n v
noncomputable def look(k:Nat):List (Nat×V)->Option V
 |[]=>none
 |(j,x)::f=>match bQ j k with|true=>some x|false=>look k f
noncomputable def put(k:Nat)(v:V):List (Nat×V)->List (Nat×V)
 |[]=>[(k,v)]
 |(j,x)::f=>match bQ j k with|true=>(j,v)::f|false=>(j,x)::put k v f
noncomputable def p8(k:Int):List (Int×V)->Option V
 |[]=>none
 |(j,x)::f=>if j=k then some x else p8 k f
noncomputable def dput(k:Int)(v:V):List (Int×V)->List (Int×V)
 |[]=>[(k,v)]
 |(j,x)::f=>if j=k then(j,v)::f else(j,x)::dput k v f
theorem Bu{k j:Int}{x:V}{f:List (Int×V)}:p8 k ((j,x)::f)=if j=k then some x else p8 k f:=rfl
theorem Jt{k j:Int}{v x:V}{f:List (Int×V)}:dput k v ((j,x)::f)=if j=k then(j,v)::f else(j,x)::dput k v f:=rfl
def rj(o:O)(H:MH)(Q:QV):Prop:=∀a,H a=none->Q (.ref a) (H.upd a o)
inductive tw(H:MH)(Q:QV):B2->V->V->Prop where
 |add {a b} (q:Q (.int (a+b)) H):tw H Q .add (.int a) (.int b)
 |sub {a b} (q:Q (.int (a - b)) H):tw H Q .sub (.int a) (.int b)
 |mul {a b} (ha:a.natAbs<2^64) (hb:b.natAbs<2^64) (q:Q (.int (a*b)) H):tw H Q .mul (.int a) (.int b)
 |fdiv {a b} (h0:b≠0) (h1:b.natAbs<1073741824) (q:Q (.int (a.fdiv b)) H):tw H Q .fdiv (.int a) (.int b)
 |mod {a b} (h0:b≠0) (q:Q (.int (a.fmod b)) H):tw H Q .mod (.int a) (.int b)
 |pow {a b} (h0:0<=b) (h1:b<=1000000) (h2:a.natAbs<2^64) (q:Q (.int (a^b.toNat)) H):tw H Q .pow (.int a) (.int b)
 |VL {a b} (h:a.length+b.length<=1000) (q:Q (.str (a++b)) H):tw H Q .add (.str a) (.str b)
 |Q6 {a b} (h:a.length+b.length<=16384) (q:Q (.tup (a++b)) H):tw H Q .add (.tup a) (.tup b)
 |ac1 {a b l m} (ha:H a=some (.list l)) (hb:H b=some (.list m)) (h:l.length+m.length<=16384) (q:rj (.list (l++m)) H Q):tw H Q .add (.ref a) (.ref b)
 |mulL {a l n} (ha:H a=some (.list l)) (h:(l.length:Int)*n<=16384) (hn: -(2^63:Int)<=n) (hl:l≠[]) (q:rj (.list (hH (aK n.toNat l))) H Q):tw H Q .mul (.ref a) (.int n)
inductive yj(R:V->V->Prop):List V->List V->Prop where
 |nil:yj R [] []
 |cons {x y l m} (h:R x y) (q:yj R l m):yj R (x::l) (y::m)
inductive rk(H:MH)(R:V->V->Prop):V->V->Prop where
 |none:rk H R .none .none
 |int {a}:rk H R (.int a) (.int a)
 |str {a}:rk H R (.str a) (.str a)
 |bytes {a}:rk H R (.bytes a) (.bytes a)
 |tup {l m} (q:yj R l m):rk H R (.tup l) (.tup m)
 |ref {a b l m} (ha:H a=some (.list l)) (hb:H b=some (.list m)) (q:yj R l m):rk H R (.ref a) (.ref b)
def sV(H:MH):Nat->V->V->Prop
 |0=>fun J J=>False
 |n+1=>rk H (sV H n)
inductive qy(H:MH)(Q:Prop->Prop):Cm->V->V->Prop where
 |eqI {a b} (q:Q (a=b)):qy H Q .eq (.int a) (.int b)
 |neI {a b} (q:Q (a≠b)):qy H Q .ne (.int a) (.int b)
 |lt {a b} (q:Q (a<b)):qy H Q .lt (.int a) (.int b)
 |le {a b} (q:Q (a<=b)):qy H Q .le (.int a) (.int b)
 |gt {a b} (q:Q (b<a)):qy H Q .gt (.int a) (.int b)
 |ge {a b} (q:Q (b<=a)):qy H Q .ge (.int a) (.int b)
 |ac2 (q:Q True):qy H Q .Aq .none .none
 |ac3 {a} (q:Q False):qy H Q .Aq (.ref a) .none
 |ac4 {a} (q:Q False):qy H Q .Aq (.int a) .none
 |ac5 {a} (q:Q False):qy H Q .Aq (.tup a) .none
 |VM (q:Q False):qy H Q .uh .none .none
 |VN {a} (q:Q True):qy H Q .uh (.ref a) .none
 |VO {a} (q:Q True):qy H Q .uh (.int a) .none
 |VP {a} (q:Q True):qy H Q .uh (.tup a) .none
 |ac6 {a b x y} (ha:H a=some x) (hb:H b=some y) (q:Q (a=b)):qy H Q .Aq (.ref a) (.ref b)
 |P9 {a b x y} (ha:H a=some x) (hb:H b=some y) (q:Q (a≠b)):qy H Q .uh (.ref a) (.ref b)
 |eqS {a b} (q:Q (a=b)):qy H Q .eq (.str a) (.str b)
 |eqB {a b} (q:Q (a=b)):qy H Q .eq (.bytes a) (.bytes b)
 |eqT {a b} (h:sV H 6 (.tup a) (.tup b)) (q:Q True):qy H Q .eq (.tup a) (.tup b)
 |neT {a b} (h:sV H 6 (.tup a) (.tup b)) (q:Q False):qy H Q .ne (.tup a) (.tup b)
 |eqL {a b} (h:sV H 6 (.ref a) (.ref b)) (q:Q True):qy H Q .eq (.ref a) (.ref b)
 |MN {a b} (h:sV H 6 (.ref a) (.ref b)) (q:Q False):qy H Q .ne (.ref a) (.ref b)
 |VQ {a b x l} (ha:H a=some (.list (x::l))) (hb:H b=some (.list [])) (q:Q True):qy H Q .ne (.ref a) (.ref b)
 |Ep {k a es ep} (ha:H a=some (.dict es ep)) (q:Q (p8 k es≠none)):qy H Q .Ep (.int k) (.ref a)
 |wq {k a es ep} (ha:H a=some (.dict es ep)) (q:Q (p8 k es=none)):qy H Q .wq (.int k) (.ref a)
 |Ju {k} {l:List Int} (q:Q (k∉l)):qy H Q .wq (.int k) (.tup (l.map .int))
inductive rI(Q:Prop->Prop):V->Prop where
 |none (q:Q False):rI Q .none
 |bool {b} (q:Q (b=true)):rI Q (.bool b)
 |int {i} (q:Q (i≠0)):rI Q (.int i)
def qm(Q:Bool->Prop)(p:Prop):Prop:=(p->Q true)/\(¬p->Q false)
def qM(b:Bool)(x y:Prop):Prop:=match b with|true=>x|false=>y
inductive ur(Θ:Tb)(k:Nat)(H:MH)(Q:QV):V->Prop where
 |own {a C f v} (e:H a=some (.inst C f)) (l:look k f=some v) (q:Q v H):ur Θ k H Q (.ref a)
 |cls {a C f v} (e:H a=some (.inst C f)) (l:look k f=none) (t:Θ.attr C k=some v) (q:Q v H):ur Θ k H Q (.ref a)
inductive yM(k:Nat)(v:V)(H:MH)(Q:MH->Prop):V->Prop where
 |mk {a C f} (e:H a=some (.inst C f)) (h:f.length<900) (q:Q (H.upd a (.inst C (put k v f)))):yM k v H Q (.ref a)
noncomputable def idx(n:Nat)(i:Int):Option Nat:=if 0<=i then(if i<n then some i.toNat else none)else if 0<=i+n then some (i+n).toNat else none
inductive vr(H:MH)(Q:QV):V->V->Prop where
 |tup {l i j v} (h:i.natAbs<2^60) (e:idx l.length i=some j) (g:l[j]? =some v) (q:Q v H):vr H Q (.tup l) (.int i)
 |str {x:PySem.Str} {i c} (h0:0<=i) (h1:i<1000) (e:x.cps[i.toNat]? =some c) (q:Q (.str ⟨#[c]⟩) H):vr H Q (.str x) (.int i)
 |bytes {l i j v} (e:idx l.length i=some j) (g:l[j]? =some v) (h:l.length<2^24) (q:Q (.int v) H):vr H Q (.bytes l) (.int i)
 |lst {a l i j v} (o:H a=some (.list l)) (h:i.natAbs<2^60) (e:idx l.length i=some j) (g:l[j]? =some v) (q:Q v H):vr H Q (.ref a) (.int i)
 |uH {a es ep i v} (o:H a=some (.dict es ep)) (e:p8 i es=some v) (q:Q v H):vr H Q (.ref a) (.int i)
inductive CK(H:MH)(Q:QV):V->V->Prop where
 |lst {a l i j v} (o:H a=some (.list l)) (h:i.natAbs<2^60) (e:idx l.length i=some j) (g:l[j]? =some v) (q:Q v H):CK H Q (.ref a) (.int i)
inductive yv(v:V)(H:MH)(Q:MH->Prop):V->V->Prop where
 |lst {a l i j} (o:H a=some (.list l)) (h:i.natAbs<2^60) (e:idx l.length i=some j) (q:Q (H.upd a (.list (l.set j v)))):yv v H Q (.ref a) (.int i)
 |uH {a es ep i} (o:H a=some (.dict es ep)) (h:es.length<16384) (q:∀ep,Q (H.upd a (.dict (dput i v es) ep))):yv v H Q (.ref a) (.int i)
noncomputable def uu(n:Nat)(i:Int):Nat:=if i<0 then(i+n).toNat else i.toNat
def rR(l:List α)(lo hi:Option Int):List α:=
 let a:=match lo with|none=>0|some i=>uu l.length i
 let b:=match hi with|none=>l.length|some i=>uu l.length i
 (l.drop a).take (b - a)
inductive yw:V->Option Int->Prop where
 |none:yw .none none
 |int {i}:yw (.int i) (some i)
inductive Ar(H:MH)(Q:QV)(lo hi:V):V->Prop where
 |tup {l a b} (e1:yw lo a) (e2:yw hi b) (h:l.length<=16384) (q:Q (.tup (rR l a b)) H):Ar H Q lo hi (.tup l)
 |bytes {l a b} (e1:yw lo a) (e2:yw hi b) (h:l.length<=2^23) (q:Q (.bytes (rR l a b)) H):Ar H Q lo hi (.bytes l)
 |lst {r l a b} (o:H r=some (.list l)) (e1:yw lo a) (e2:yw hi b) (h:l.length<=2^23) (q:rj (.list (rR l a b)) H Q):Ar H Q lo hi (.ref r)
 |rl {r l vs n a b} (o:H r=some (.rl l vs n)) (e1:yw lo a) (e2:yw hi b) (h:l.length<=2^23) (q:rj (.list (rR l a b)) H Q):Ar H Q lo hi (.ref r)
inductive Hs(H:MH)(Q:QV):V->Prop where
 |lst {r l} (o:H r=some (.list l)) (h:l.length<=2^23) (q:rj (.list l.reverse) H Q):Hs H Q (.ref r)
noncomputable def pq:Nat:=2^23
inductive qS(a:Addr)(l:List V)(H:MH)(Q:QV):Nat->List V->Prop where
 |app {x} (h:l.length<=pq) (q:Q .none (H.upd a (.list (l++[x])))):qS a l H Q 1 [x]
 |VS {b m} (o:H b=some (.list m)) (h:l.length+m.length<=pq) (n:a≠b) (q:Q .none (H.upd a (.list (l++m)))):qS a l H Q 16 [.ref b]
 |VT {m:List Int} (h:l.length+m.length<=pq) (q:Q .none (H.upd a (.list (l++m.map .int)))):qS a l H Q 16 [.bytes m]
 |pop {x} (e:l.getLast?=some x) (h:l.length<=pq) (q:Q x (H.upd a (.list l.dropLast))):qS a l H Q 45 []
inductive Jv(es:List (Int×V))(H:MH)(Q:QV):Nat->List V->Prop where
 |Jw {i} (q:Q ((p8 i es).getD .none) H):Jv es H Q 19 [.int i]
 |VU {i d} (q:Q ((p8 i es).getD d) H):Jv es H Q 19 [.int i,d]
noncomputable def tH:List V->Option (List Int)
 |[]=>some []
 | .int i::r=>(tH r).map (i::·)
 |_=>none
noncomputable def tL:Int->List Int->Int
 |m,[]=>m
 |m,x::r=>tL (if m<x then x else m) r
noncomputable def Ex:Int->List Int->Int
 |m,[]=>m
 |m,x::r=>Ex (if x<m then x else m) r
noncomputable def Ht(x:Int):List Int->List Int
 |[]=>[x]
 |y::r=>if x<=y then x::y::r else y::Ht x r
noncomputable def qF:List Int->List Int
 |[]=>[]
 |x::r=>Ht x (qF r)
noncomputable def chars(s:PySem.Str):List V:=s.cps.toList.map fun c=>.str ⟨#[c]⟩
noncomputable def sW(a b c:Int):List V:=(dn (if c=1 then b - a else a - b).toNat).map fun(i:Nat)=>V.int (a+(i:Int)*c)
inductive qr(H:MH)(Q:List V->(MH->Prop)->Prop):V->Prop where
 |tup {l} (h:l.length<=pq) (q:Q l fun J=>True):qr H Q (.tup l)
 |str {s:PySem.Str} (h:s.length<=1000) (h1:s.cps.all (· <128)=true) (q:Q (chars s) fun J=>True):qr H Q (.str s)
 |bytes {l:List Int} (h:l.length<=pq) (q:Q (l.map .int) fun J=>True):qr H Q (.bytes l)
 |Ak {a b c} (h:c=1\/c= -1) (h1:a.natAbs<2^60) (h2:b.natAbs<2^60) (q:Q (sW a b c) fun J=>True):qr H Q (.Ak a b c)
 |lst {r l} (o:H r=some (.list l)) (h:l.length<=pq) (q:Q l fun H'=>H' r=some (.list l)):qr H Q (.ref r)
 |uH {r es ep} (o:H r=some (.dict es ep)) (h:es.length<=16384) (q:Q (es.map fun e=>.int e.1) fun H'=>∃tK,H' r=some (.dict tK ep)/\tK.map ar=es.map ar):qr H Q (.ref r)
noncomputable def VV:V->Bool
 | .typ _=>true
 |_=>false
inductive qt(H:MH)(Q:QV):Bi->List V->Prop where
 |rS {l} (h:l.length<=pq) (q:Q (.int l.length) H):qt H Q .len [.tup l]
 |Hu {l} (h:l.length<=pq) (q:Q (.int l.length) H):qt H Q .len [.bytes l]
 |Nh {l:PySem.Str} (h:l.length<=pq) (q:Q (.int l.length) H):qt H Q .len [.str l]
 |ud {a l} (o:H a=some (.list l)) (h:l.length<=pq) (q:Q (.int l.length) H):qt H Q .len [.ref a]
 |Q7 {a es ep} (o:H a=some (.dict es ep)) (h:es.length<=16384) (q:Q (.int es.length) H):qt H Q .len [.ref a]
 |abs {i} (q:Q (.int i.natAbs) H):qt H Q .abs [.int i]
 |ord {s:PySem.Str} {c} (e:s.cps.toList=[c]) (q:Q (.int c) H):qt H Q .ord [.str s]
 |toI {i} (q:Q (.int i) H):qt H Q .yi [.int i]
 |toB {b} (q:Q (.int (if b then 1 else 0)) H):qt H Q .yi [.bool b]
 |sum {a l is} (o:H a=some (.list l)) (e:tH l=some is) (q:Q (.int is.sum) H):qt H Q .sum [.ref a]
 |max2 {a b} (q:Q (.int (tL a [b])) H):qt H Q .max [.int a,.int b]
 |ac7 {a b c d} (q:Q (.int (tL a [b,c,d])) H):qt H Q .max [.int a,.int b,.int c,.int d]
 |tL {a l m r} (o:H a=some (.list l)) (e:tH l=some (m::r)) (q:Q (.int (tL m r)) H):qt H Q .max [.ref a]
 |min {l m r} (e:tH l=some (m::r)) (q:Q (.int (Ex m r)) H):qt H Q .min [.tup l]
 |Qa {a l} (o:H a=some (.list l)) (h:l.length<=pq) (q:rj (.list l) H Q):qt H Q .list [.ref a]
 |Qb {l} (h:l.length<=pq) (q:rj (.list l) H Q):qt H Q .list [.tup l]
 |Qc {l:List Int} (h:l.length<=pq) (q:rj (.list (l.map .int)) H Q):qt H Q .list [.bytes l]
 |Ni {a l} (o:H a=some (.list l)) (h:l.length<=16384) (q:Q (.tup l) H):qt H Q .tuple [.ref a]
 |Nj {l} (q:Q (.tup l) H):qt H Q .tuple [.tup l]
 |dict {a es ep} (o:H a=some (.dict es ep)) (h:es.length<=16384) (q:∀ep,rj (.dict es ep) H Q):qt H Q .dict [.ref a]
 |Q8 {a l is} (o:H a=some (.list l)) (e:tH l=some is) (h:is.length<=pq) (h1:∀i∈is,0<=i/\i<256) (q:Q (.bytes is) H):qt H Q .bytes [.ref a]
 |VW {l} (q:Q (.bytes l) H):qt H Q .bytes [.bytes l]
 |sorted {a es ep} (o:H a=some (.dict es ep)) (h:es.length<64) (q:rj (.list ((qF (es.map ar)).map .int)) H Q):qt H Q .sorted [.ref a]
 |CL {b} (h:b.natAbs<2^60) (q:Q (.Ak 0 b 1) H):qt H Q .range [.int b]
 |VX {a b} (h:a.natAbs<2^60) (h1:b.natAbs<2^60) (q:Q (.Ak a b 1) H):qt H Q .range [.int a,.int b]
 |Q9 {a b c} (h:a.natAbs<2^60) (h1:b.natAbs<2^60) (h2:c=1\/c= -1) (q:Q (.Ak a b c) H):qt H Q .range [.int a,.int b,.int c]
 |ac8 {i} (q:Q (.bool true) H):qt H Q .ri [.int i,.typ "int"]
 |ac9 {i} (q:Q (.bool false) H):qt H Q .ri [.int i,.typ "bool"]
 |isS {s} (q:Q (.bool true) H):qt H Q .ri [.str s,.typ "str"]
 |isT {l} (q:Q (.bool true) H):qt H Q .ri [.tup l,.typ "tuple"]
 |isB {l} (q:Q (.bool true) H):qt H Q .ri [.bytes l,.typ "bytes"]
 |VY {l r} (h:r.all VV=true) (q:Q (.bool true) H):qt H Q .ri [.bytes l,.tup (.typ "bytes"::r)]
def Cy:V->Prop->Prop
 | .rG,_=>False
 | .none,p=>p
 | .bool _,p=>p
 | .int _,p=>p
 | .str _,p=>p
 | .bytes _,p=>p
 | .ref _,p=>p
 | .typ _,p=>p
 | .Ak _ _ _,p=>p
 | .tup _,p=>p
theorem F9{v:V}{p:Prop}(h:Cy v p):v≠.rG/\p:=⟨fun z=>by subst z;exact h,by induction v using V.casesOn<;>first|exact h.elim|exact h⟩
def wY:Nat->V->Loc->(Loc->Prop)->Prop
 |_,_,[],_=>False
 |0,x,_::r,K=>K (x::r)
 |n+1,x,y::r,K=>wY n x r fun r'=>K (y::r')
theorem wZ{x:V}:∀{i:Nat} {U:Loc} {K:Loc->Prop},wY i x U K->i<U.length/\K (vq U i x)
 |_,[],_,h=>by cases ‹Nat›<;>exact h.elim
 |0,_::r,K,h=>⟨cH _,h⟩
 |n+1,y::r,K,h=>let ⟨a,b⟩:=wZ (i:=n) (U:=r) h;⟨jo a,b⟩
noncomputable def yN(n:Nat):List (Nat×Nat)->Loc->Loc->Loc
 |[],_,r=>r
 |(i,j)::m,U,r=>yN n m U (vq r i (getL U j))
def wb(n:Nat)(l:List (Nat×Nat))(U:Loc):Loc:=yN n l U (aK n .rG)
noncomputable def qT:List Nat->List V->Loc->Loc
 |[],_,U=>U
 |_::_,[],U=>U
 |i::is,x::xs,U=>qT is xs (vq U i x)
def Ga:Ts->Nat
 | .nil=>0
 | .cons _ r=>Ga r+1
noncomputable def uU(acc:List V):Option V->List V
 |some v=>acc++[v]
 |none=>acc
def sF(turn:V->Loc->MH->(Loc->Option V->MH->Prop)->Prop)(ok:MH->Prop):List V->List V->Loc->MH->(List V->MH->Prop)->Prop
 |[],acc,_,H,Q=>ok H/\Q acc H
 |x::r,acc,U,H,Q=>ok H/\turn x U H fun qp o H'=>sF turn ok r (uU acc o) qp H' Q
def Jd(turn:V->List Int->Loc->MH->(List Int->Loc->MH->Prop)->Prop)(ok:MH->Prop):List V->List Int->Loc->MH->(List Int->Loc->MH->Prop)->Prop
 |[],acc,U,H,Q=>ok H/\Q acc U H
 |x::r,acc,U,H,Q=>ok H/\turn x acc U H fun sD qp H'=>Jd turn ok r sD qp H' Q
noncomputable def wC(x:Int)(l:List Int):List Int:=if x∈l then l else l++[x]
noncomputable abbrev QF:=Fl->Loc->MH->Prop
def fK(R:Loc->MH->Prop)(K:QF):QF
 | .next,U,H=>R U H
 | .cont,U,H=>R U H
 | .brk,U,H=>K .next U H
 | .ret v,U,H=>K (.ret v) U H
def kc(R:Loc->MH->Prop)(K:QF):QF
 | .next,U,H=>R U H
 | .cont,U,H=>K .cont U H
 | .brk,U,H=>K .brk U H
 | .ret v,U,H=>K (.ret v) U H
def rK(Q:QV):QF
 | .next,_,H=>Q .none H
 | .cont,_,_=>False
 | .brk,_,_=>False
 | .ret v,_,H=>Q v H
def rY(body:V->Loc->MH->QF->Prop)(ok:MH->Prop):List V->Loc->MH->QF->Prop
 |[],U,H,K=>ok H/\K .next U H
 |x::r,U,H,K=>ok H/\body x U H (fK (fun qp H'=>rY body ok r qp H' K) K)
def yx(test:Loc->MH->(Bool->MH->Prop)->Prop)(body:Loc->MH->QF->Prop):Nat->Loc->MH->QF->Prop
 |0,_,_,_=>False
 |n+1,U,H,K=>test U H fun b H'=>qM b (body U H' (fK (fun qp VJ=>yx test body n qp VJ K) K)) (K .next U H')
inductive Gb(H:MH):V->List V->Prop where
 |tup {l}:Gb H (.tup l) l
 |lst {r l} (o:H r=some (.list l)):Gb H (.ref r) l
inductive MK where|user(g:Nat)(a:Addr)|lst(a:Addr)|uH(a:Addr)
inductive xC(Θ:Tb)(k:Nat)(H:MH)(Q:MK->Prop):V->Prop where
 |user {a C f g} (e:H a=some (.inst C f)) (l:look k f=none) (m:Θ.pD C k=some g) (q:Q (.user g a)):xC Θ k H Q (.ref a)
 |lst {a l} (e:H a=some (.list l)) (h:k=1\/k=16\/k=45) (q:Q (.lst a)):xC Θ k H Q (.ref a)
 |uH {a es ep} (e:H a=some (.dict es ep)) (h:k=19) (q:Q (.uH a)):xC Θ k H Q (.ref a)
section
variable(Θ:Tb)(call:pK)
def Ey(C:Addr)(as:List V)(H:MH)(Q:QV)(E:QE):Prop:=∃f,Θ.init C=some f/\∀a,H a=none->call f (.ref a::as) (H.upd a (.inst C [])) (fun v H'=>v=.none/\Q (.ref a) H') E
def yy(m:MK)(k:Nat)(as:List V)(H:MH)(Q:QV)(E:QE):Prop:=match m with
 | .user g a=>call g (.ref a::as) H Q E
 | .lst a=>∃l,H a=some (.list l)/\qS a l H Q k as
 | .uH a=>∃es ep,H a=some (.dict es ep)/\Jv es H Q k as
mutual
def wE:X->Loc->MH->QV->QE->Prop
 | .bad,_,_,_,_=>False
 | .c v,_,H,Q,_=>Q v H
 | .v i,U,H,Q,_=>Cy (getL U i) (Q (getL U i) H)
 | .bin o a b,U,H,Q,E=>wE a U H (fun x H1=>wE b U H1 (fun y H2=>tw H2 Q o x y) E) E
 | .neg a,U,H,Q,E=>wE a U H (fun x H1=>∃i,x=.int i/\Q (.int (-i)) H1) E
 | .no a,U,H,Q,E=>wE a U H (fun x H1=>rI (qm fun t=>Q (.bool (!t)) H1) x) E
 | .band a b,U,H,Q,E=>wE a U H (fun x H1=>rI (qm fun t=>qM t (wE b U H1 Q E) (Q x H1)) x) E
 | .bor a b,U,H,Q,E=>wE a U H (fun x H1=>rI (qm fun t=>qM t (Q x H1) (wE b U H1 Q E)) x) E
 | .ite t a b,U,H,Q,E=>wT t U H (fun c H1=>qM c (wE a U H1 Q E) (wE b U H1 Q E)) E
 | .cmp o a b,U,H,Q,E=>wE a U H (fun x H1=>wE b U H1 (fun y H2=>qy H2 (qm fun t=>Q (.bool t) H2) o x y) E) E
 | .uc o p a b c,U,H,Q,E=>wE a U H (fun x H1=>wE b U H1 (fun y H2=>qy H2 (qm fun t=>qM t (wE c U H2 (fun z H3=>qy H3 (qm fun t=>Q (.bool t) H3) p y z) E) (Q (.bool false) H2)) o x y) E) E
 | .attr a k,U,H,Q,E=>wE a U H (fun x H1=>ur Θ k H1 Q x) E
 | .call f as,U,H,Q,E=>wEs as U H (fun vs H1=>call f vs H1 Q E) E
 | .new C as,U,H,Q,E=>wEs as U H (fun vs H1=>Ey Θ call C vs H1 Q E) E
 | .pD a k as,U,H,Q,E=>wE a U H (fun x H1=>xC Θ k H1 (fun m=>wEs as U H1 (fun vs H2=>yy call m k vs H2 Q E) E) x) E
 | .blt b as,U,H,Q,E=>wEs as U H (fun vs H1=>qt H1 Q b vs) E
 | .sub a i,U,H,Q,E=>wE a U H (fun x H1=>wE i U H1 (fun y H2=>vr H2 Q x y) E) E
 | .Al a lo hi,U,H,Q,E=>wE a U H (fun x H1=>wE lo U H1 (fun y H2=>wE hi U H2 (fun z H3=>Ar H3 Q y z x) E) E) E
 | .rev a,U,H,Q,E=>wE a U H (fun x H1=>Hs H1 Q x) E
 | .tup as,U,H,Q,E=>wEs as U H (fun vs H1=>Q (.tup vs) H1) E
 | .lst as,U,H,Q,E=>wEs as U H (fun vs H1=>rj (.list vs) H1 Q) E
 | .uH ks vs,U,H,Q,E=>wEs vs U H (fun vs H1=>ks.length=vs.length/\∀ep,rj (.dict ((ks.zip vs).foldl (fun es e=>dput e.1 e.2 es) []) ep) H1 Q) E
 | .comp n cp t src cond e,U,H,Q,E=>wE src U H (fun x H1=>qr H1 (fun l ok=>
   l.length<=pq/\sF (fun x r H K=>wA t x r H (fun r' H2=>wT cond r' H2 (fun b H3=>qM b (wE e r' H3 (fun v H4=>K r' (some v) H4) ub) (K r' none H3)) ub) ub) ok l [] (wb n cp U) H1 fun vs H2=>rj (.list vs) H2 Q) x) E
 | .sset n cp t1 s1 t2 s2 e,U,H,Q,E=>wE s1 U H (fun x H1=>qr H1 (fun l ok=>
   l.length<=pq/\Jd (fun x acc r H K=>wA t1 x r H (fun r' H2=>wE s2 r' H2 (fun y H3=>qr H3 (fun l2 Rf=>
    l2.length<=pq/\Jd (fun y acc r H K=>wA t2 y r H (fun r' H2=>wE e r' H2 (fun v H3=>∃i,v=.int i/\(i=1\/i=2)/\K (wC i acc) r' H3) ub) ub) Rf l2 acc r' H3 K) y) ub) ub) ok l [] (wb n cp U) H1 fun acc J H2=>acc.length<64/\rj (.list ((qF acc).map .int)) H2 Q) x) E
def wEs:Xs->Loc->MH->(List V->MH->Prop)->QE->Prop
 | .nil,_,H,Q,_=>Q [] H
 | .cons x r,U,H,Q,E=>wE x U H (fun v H1=>wEs r U H1 (fun vs H2=>Q (v::vs) H2) E) E
def wT:X->Loc->MH->(Bool->MH->Prop)->QE->Prop
 | .no a,U,H,Q,E=>wT a U H (fun b H1=>Q (!b) H1) E
 | .band a b,U,H,Q,E=>wT a U H (fun t H1=>qM t (wT b U H1 Q E) (Q false H1)) E
 | .bor a b,U,H,Q,E=>wT a U H (fun t H1=>qM t (Q true H1) (wT b U H1 Q E)) E
 | .ite t a b,U,H,Q,E=>wT t U H (fun c H1=>qM c (wT a U H1 Q E) (wT b U H1 Q E)) E
 | .cmp o a b,U,H,Q,E=>wE a U H (fun x H1=>wE b U H1 (fun y H2=>qy H2 (qm fun t=>Q t H2) o x y) E) E
 | .uc o p a b c,U,H,Q,E=>wE a U H (fun x H1=>wE b U H1 (fun y H2=>qy H2 (qm fun t=>qM t (wE c U H2 (fun z H3=>qy H3 (qm fun t=>Q t H3) p y z) E) (Q false H2)) o x y) E) E
 | .c v,_,H,Q,_=>rI (qm fun t=>Q t H) v
 | .v i,U,H,Q,_=>Cy (getL U i) (rI (qm fun t=>Q t H) (getL U i))
 | .call f as,U,H,Q,E=>wEs as U H (fun vs H1=>call f vs H1 (fun v H2=>rI (qm fun t=>Q t H2) v) E) E
 | .pD a k as,U,H,Q,E=>wE a U H (fun x H1=>xC Θ k H1 (fun m=>wEs as U H1 (fun vs H2=>yy call m k vs H2 (fun v H3=>rI (qm fun t=>Q t H3) v) E) E) x) E
 | .blt b as,U,H,Q,E=>wEs as U H (fun vs H1=>qt H1 (fun v H2=>rI (qm fun t=>Q t H2) v) b vs) E
 |_,_,_,_,_=>False
def wA:T->V->Loc->MH->(Loc->MH->Prop)->QE->Prop
 | .v i,x,U,H,Q,_=>wY i x U fun qp=>Q qp H
 | .attr o k,x,U,H,Q,E=>wE o U H (fun y H1=>yM k x H1 (Q U) y) E
 | .sub o i,x,U,H,Q,E=>wE o U H (fun y H1=>wE i U H1 (fun z H2=>yv x H2 (Q U) y z) E) E
 | .tup ts,x,U,H,Q,E=>∃l,Gb H x l/\l.length=Ga ts/\Hv ts l U H Q E
def Hv:Ts->List V->Loc->MH->(Loc->MH->Prop)->QE->Prop
 | .nil,[],U,H,Q,_=>Q U H
 | .nil,_::_,_,_,_,_=>False
 | .cons _ _,[],_,_,_,_=>False
 | .cons t ts,x::xs,U,H,Q,E=>wA t x U H (fun qp H'=>Hv ts xs qp H' Q E) E
end
inductive xD(H:MH)(Q:QV):B2->V->V->Prop where
 |add {a b} (q:Q (.int (a+b)) H):xD H Q .add (.int a) (.int b)
mutual
def wS:S->Loc->MH->QF->QE->Prop
 | .bad,_,_,_,_=>False
 | .pass,U,H,K,_=>K .next U H
 | .cont,U,H,K,_=>K .cont U H
 | .brk,U,H,K,_=>K .brk U H
 | .expr e,U,H,K,E=>wE Θ call e U H (fun J H1=>K .next U H1) E
 | .ret e,U,H,K,E=>wE Θ call e U H (fun v H1=>K (.ret v) U H1) E
 | .asg t e,U,H,K,E=>wE Θ call e U H (fun v H1=>wA Θ call t v U H1 (fun qp H2=>K .next qp H2) E) E
 | .Ew is e,U,H,K,E=>wE Θ call e U H (fun v H1=>∃l,v=.tup l/\l.length=is.length/\K .next (qT is l.reverse U) H1) E
 | .aug t o e,U,H,K,E=>match t with
  | .v i=>Cy (getL U i) (wE Θ call e U H (fun y H1=>xD H1 (fun z H2=>wY i z U fun qp=>K .next qp H2) o (getL U i) y) E)
  | .attr a k=>wE Θ call a U H (fun x H1=>ur Θ k H1 (fun u H2=>wE Θ call e U H2 (fun y H3=>xD H3 (fun z H4=>yM k z H4 (K .next U) x) o u y) E) x) E
  | .sub a i=>wE Θ call a U H (fun x H1=>wE Θ call i U H1 (fun j H2=>CK H2 (fun u H3=>wE Θ call e U H3 (fun y H4=>xD H4 (fun z H5=>yv z H5 (K .next U) x j) o u y) E) x j) E) E
  | .tup _=>False
 | .pT t a b,U,H,K,E=>wT Θ call t U H (fun c H1=>qM c (wSs a U H1 K E) (wSs b U H1 K E)) E
 | .F8 t b,U,H,K,E=>∃n,yx (fun U H Q=>wT Θ call t U H Q E) (fun U H K=>wSs b U H K E) n U H K
 | .fr t src b,U,H,K,E=>wE Θ call src U H (fun x H1=>qr H1 (fun l ok=>
   rY (fun x U H K=>wA Θ call t x U H (fun qp H'=>wSs b qp H' K E) E) ok l U H1 K) x) E
 | .UZ t src b,U,H,K,E=>wE Θ call src U H (fun x H1=>∃r es ep,x=.ref r/\H1 r=some (.dict es ep)/\es.length<=16384/\
   rY (fun x U H K=>wA Θ call t x U H (fun qp H'=>wSs b qp H' K E) E) (fun H'=>H' r=some (.dict es ep)) (es.map fun e=>.tup [.int e.1,e.2]) U H1 K) E
 | .U0 src,U,H,K,E=>wE Θ call src U H (fun x H1=>x=.tup []/\K .next U H1) E
 | .raise C as,U,H,_,E=>wEs Θ call as U H (fun vs H1=>(∃s,vs=[.str s])/\E C H1) E
 | .VK b C h,U,H,K,E=>wSs b U H K (fun C' H'=>if C'=C then wSs h U H' K E else E C' H')
def wSs:Ss->Loc->MH->QF->QE->Prop
 | .nil,U,H,K,_=>K .next U H
 | .cons s r,U,H,K,E=>wS s U H (kc (fun qp H'=>wSs r qp H' K E) K) E
end
end
structure Fn where
 n:Nat
 ps:List Nat
 dv:List V
 body:Ss
def pz(Θ:Tb)(F:Nat->Option Fn):Nat->pK
 |0=>fun J J J J J=>False
 |d+1=>fun f as H Q E=>∃fn,F f=some fn/\as.length<=fn.ps.length/\fn.ps.length<=as.length+fn.dv.length/\
   wSs Θ (pz Θ F d) fn.body (qT fn.ps (as++fn.dv.drop (as.length+fn.dv.length - fn.ps.length)) (aK fn.n .rG)) H (rK Q) E
section
variable(Θ:Tb)(cl:pK)
def rest(r:Ss)(K:QF)(E:QE):Loc->MH->Prop:=fun U H=>wSs Θ cl r U H K E
def VZ(c:Bool)(a b:Ss)(U:Loc)(H:MH)(K:QF)(E:QE):Prop:=qM c (wSs Θ cl a U H K E) (wSs Θ cl b U H K E)
def lp(t:T)(b:Ss)(E:QE):V->Loc->MH->QF->Prop:=fun x U H K=>wA Θ cl t x U H (fun qp H'=>wSs Θ cl b qp H' K E) E
def sX(t:X)(E:QE):Loc->MH->(Bool->MH->Prop)->Prop:=fun U H Q=>wT Θ cl t U H Q E
def vB(b:Ss)(E:QE):Loc->MH->QF->Prop:=fun U H K=>wSs Θ cl b U H K E
def qx(t:T)(cond e:X):V->Loc->MH->(Loc->Option V->MH->Prop)->Prop:=fun x r H K=>wA Θ cl t x r H (fun r' H2=>wT Θ cl cond r' H2 (fun b H3=>qM b (wE Θ cl e r' H3 (fun v H4=>K r' (some v) H4) ub) (K r' none H3)) ub) ub
end
section
variable{K:QF}{lo hi cond:X}
theorem ad3:(wE Θ cl (.bad:X) U H Q E)=(False):=rfl
theorem ad4:(wE Θ cl (.c v:X) U H Q E)=(Q v H):=rfl
theorem ad5:(wE Θ cl (.v i:X) U H Q E)=(Cy (getL U i) (Q (getL U i) H)):=rfl
theorem Jx:(wE Θ cl (.bin o a b:X) U H Q E)=(wE Θ cl a U H (fun x H1=>wE Θ cl b U H1 (fun y H2=>tw H2 Q o x y) E) E):=rfl
theorem Jy:(wE Θ cl (.neg a:X) U H Q E)=(wE Θ cl a U H (fun x H1=>∃i,x=.int i/\Q (.int (-i)) H1) E):=rfl
theorem Qd:(wE Θ cl (.no a:X) U H Q E)=(wE Θ cl a U H (fun x H1=>rI (qm fun t=>Q (.bool (!t)) H1) x) E):=rfl
theorem Ge:(wE Θ cl (.band a b:X) U H Q E)=(wE Θ cl a U H (fun x H1=>rI (qm fun t=>qM t (wE Θ cl b U H1 Q E) (Q x H1)) x) E):=rfl
theorem Jz:(wE Θ cl (.bor a b:X) U H Q E)=(wE Θ cl a U H (fun x H1=>rI (qm fun t=>qM t (Q x H1) (wE Θ cl b U H1 Q E)) x) E):=rfl
theorem JA:(wE Θ cl (.ite t a b:X) U H Q E)=(wT Θ cl t U H (fun c H1=>qM c (wE Θ cl a U H1 Q E) (wE Θ cl b U H1 Q E)) E):=rfl
theorem JB:(wE Θ cl (.cmp o a b:X) U H Q E)=(wE Θ cl a U H (fun x H1=>wE Θ cl b U H1 (fun y H2=>qy H2 (qm fun t=>Q (.bool t) H2) o x y) E) E):=rfl
theorem Gf:(wE Θ cl (.uc o p a b c:X) U H Q E)=(wE Θ cl a U H (fun x H1=>wE Θ cl b U H1 (fun y H2=>qy H2 (qm fun t=>qM t (wE Θ cl c U H2 (fun z H3=>qy H3 (qm fun t=>Q (.bool t) H3) p y z) E) (Q (.bool false) H2)) o x y) E) E):=rfl
theorem Gg:(wE Θ cl (.attr a k:X) U H Q E)=(wE Θ cl a U H (fun x H1=>ur Θ k H1 Q x) E):=rfl
theorem Gh:(wE Θ cl (.call f as:X) U H Q E)=(wEs Θ cl as U H (fun vs H1=>cl f vs H1 Q E) E):=rfl
theorem JC:(wE Θ cl (.new C as:X) U H Q E)=(wEs Θ cl as U H (fun vs H1=>Ey Θ cl C vs H1 Q E) E):=rfl
theorem Gi:(wE Θ cl (.pD a k as:X) U H Q E)=(wE Θ cl a U H (fun x H1=>xC Θ k H1 (fun m=>wEs Θ cl as U H1 (fun vs H2=>yy cl m k vs H2 Q E) E) x) E):=rfl
theorem JD:(wE Θ cl (.blt b as:X) U H Q E)=(wEs Θ cl as U H (fun vs H1=>qt H1 Q b vs) E):=rfl
theorem JE:(wE Θ cl (.sub a i:X) U H Q E)=(wE Θ cl a U H (fun x H1=>wE Θ cl i U H1 (fun y H2=>vr H2 Q x y) E) E):=rfl
theorem JF:(wE Θ cl (.Al a lo hi:X) U H Q E)=(wE Θ cl a U H (fun x H1=>wE Θ cl lo U H1 (fun y H2=>wE Θ cl hi U H2 (fun z H3=>Ar H3 Q y z x) E) E) E):=rfl
theorem JG:(wE Θ cl (.rev a:X) U H Q E)=(wE Θ cl a U H (fun x H1=>Hs H1 Q x) E):=rfl
theorem JH:(wE Θ cl (.tup as:X) U H Q E)=(wEs Θ cl as U H (fun vs H1=>Q (.tup vs) H1) E):=rfl
theorem JI:(wE Θ cl (.lst as:X) U H Q E)=(wEs Θ cl as U H (fun vs H1=>rj (.list vs) H1 Q) E):=rfl
theorem JJ:(wE Θ cl (.uH ks vs:X) U H Q E)=(wEs Θ cl vs U H (fun vs H1=>ks.length=vs.length/\∀ep,rj (.dict ((ks.zip vs).foldl (fun es e=>dput e.1 e.2 es) []) ep) H1 Q) E):=rfl
theorem Bv:(wE Θ cl (.comp n cp t src cond e:X) U H Q E)=(wE Θ cl src U H (fun x H1=>qr H1 (fun l ok=>l.length<=pq/\sF (qx Θ cl t cond e) ok l [] (wb n cp U) H1 fun vs H2=>rj (.list vs) H2 Q) x) E):=rfl
theorem Gj:(wE Θ cl (.sset n cp t1 s1 t2 s2 e:X) U H Q E)=(wE Θ cl s1 U H (fun x H1=>qr H1 (fun l ok=>l.length<=pq/\Jd (fun x acc r H K=>wA Θ cl t1 x r H (fun r' H2=>wE Θ cl s2 r' H2 (fun y H3=>qr H3 (fun l2 Rf=>l2.length<=pq/\Jd (fun y acc r H K=>wA Θ cl t2 y r H (fun r' H2=>wE Θ cl e r' H2 (fun v H3=>∃i,v=.int i/\(i=1\/i=2)/\K (wC i acc) r' H3) ub) ub) Rf l2 acc r' H3 K) y) ub) ub) ok l [] (wb n cp U) H1 fun acc J H2=>acc.length<64/\rj (.list ((qF acc).map .int)) H2 Q) x) E):=rfl
theorem Nk:(wEs Θ cl (.nil:Xs) U H Q E)=(Q [] H):=rfl
theorem CM:(wEs Θ cl (.cons x r:Xs) U H Q E)=(wE Θ cl x U H (fun v H1=>wEs Θ cl r U H1 (fun vs H2=>Q (v::vs) H2) E) E):=rfl
theorem Qe:(wT Θ cl (.no a:X) U H Q E)=(wT Θ cl a U H (fun b H1=>Q (!b) H1) E):=rfl
theorem Gk:(wT Θ cl (.band a b:X) U H Q E)=(wT Θ cl a U H (fun t H1=>qM t (wT Θ cl b U H1 Q E) (Q false H1)) E):=rfl
theorem JK:(wT Θ cl (.bor a b:X) U H Q E)=(wT Θ cl a U H (fun t H1=>qM t (Q true H1) (wT Θ cl b U H1 Q E)) E):=rfl
theorem JL:(wT Θ cl (.ite t a b:X) U H Q E)=(wT Θ cl t U H (fun c H1=>qM c (wT Θ cl a U H1 Q E) (wT Θ cl b U H1 Q E)) E):=rfl
theorem JM:(wT Θ cl (.cmp o a b:X) U H Q E)=(wE Θ cl a U H (fun x H1=>wE Θ cl b U H1 (fun y H2=>qy H2 (qm fun t=>Q t H2) o x y) E) E):=rfl
theorem Gm:(wT Θ cl (.uc o p a b c:X) U H Q E)=(wE Θ cl a U H (fun x H1=>wE Θ cl b U H1 (fun y H2=>qy H2 (qm fun t=>qM t (wE Θ cl c U H2 (fun z H3=>qy H3 (qm fun t=>Q t H3) p y z) E) (Q false H2)) o x y) E) E):=rfl
theorem av6:(wT Θ cl (.c v:X) U H Q E)=(rI (qm fun t=>Q t H) v):=rfl
theorem av7:(wT Θ cl (.v i:X) U H Q E)=(Cy (getL U i) (rI (qm fun t=>Q t H) (getL U i))):=rfl
theorem Nl:(wT Θ cl (.call f as:X) U H Q E)=(wEs Θ cl as U H (fun vs H1=>cl f vs H1 (fun v H2=>rI (qm fun t=>Q t H2) v) E) E):=rfl
theorem Nm:(wT Θ cl (.pD a k as:X) U H Q E)=(wE Θ cl a U H (fun x H1=>xC Θ k H1 (fun m=>wEs Θ cl as U H1 (fun vs H2=>yy cl m k vs H2 (fun v H3=>rI (qm fun t=>Q t H3) v) E) E) x) E):=rfl
theorem Rg:(wT Θ cl (.blt b as:X) U H Q E)=(wEs Θ cl as U H (fun vs H1=>qt H1 (fun v H2=>rI (qm fun t=>Q t H2) v) b vs) E):=rfl
theorem ad6:(wA Θ cl (.v i:T) x U H Q E)=(wY i x U fun qp=>Q qp H):=rfl
theorem Gn:(wA Θ cl (.attr o k:T) x U H Q E)=(wE Θ cl o U H (fun y H1=>yM k x H1 (Q U) y) E):=rfl
theorem JN:(wA Θ cl (.sub o i:T) x U H Q E)=(wE Θ cl o U H (fun y H1=>wE Θ cl i U H1 (fun z H2=>yv x H2 (Q U) y z) E) E):=rfl
theorem Rh:(wA Θ cl (.tup ts:T) x U H Q E)=(∃l,Gb H x l/\l.length=Ga ts/\Hv Θ cl ts l U H Q E):=rfl
theorem ZJ:(Hv Θ cl (.nil:Ts) [] U H Q E)=(Q U H):=rfl
theorem CN:(Hv Θ cl (.cons t ts:Ts) (x::xs) U H Q E)=(wA Θ cl t x U H (fun qp H'=>Hv Θ cl ts xs qp H' Q E) E):=rfl
theorem ad7:(wS Θ cl (.bad:S) U H K E)=(False):=rfl
theorem Np:(wS Θ cl (.pass:S) U H K E)=(K .next U H):=rfl
theorem Nq:(wS Θ cl (.cont:S) U H K E)=(K .cont U H):=rfl
theorem Ri:(wS Θ cl (.brk:S) U H K E)=(K .brk U H):=rfl
theorem Nr:(wS Θ cl (.expr e:S) U H K E)=(wE Θ cl e U H (fun J H1=>K .next U H1) E):=rfl
theorem Rj:(wS Θ cl (.ret e:S) U H K E)=(wE Θ cl e U H (fun v H1=>K (.ret v) U H1) E):=rfl
theorem JO:(wS Θ cl (.asg t e:S) U H K E)=(wE Θ cl e U H (fun v H1=>wA Θ cl t v U H1 (fun qp H2=>K .next qp H2) E) E):=rfl
theorem Rk:(wS Θ cl (.Ew is e:S) U H K E)=(wE Θ cl e U H (fun v H1=>∃l,v=.tup l/\l.length=is.length/\K .next (qT is l.reverse U) H1) E):=rfl
theorem V0:(wS Θ cl (.aug (.v i) o e:S) U H K E)=(Cy (getL U i) (wE Θ cl e U H (fun y H1=>xD H1 (fun z H2=>wY i z U fun qp=>K .next qp H2) o (getL U i) y) E)):=rfl
theorem CP:(wS Θ cl (.aug (.attr a k) o e:S) U H K E)=(wE Θ cl a U H (fun x H1=>ur Θ k H1 (fun u H2=>wE Θ cl e U H2 (fun y H3=>xD H3 (fun z H4=>yM k z H4 (K .next U) x) o u y) E) x) E):=rfl
theorem Ez:(wS Θ cl (.aug (.sub a i) o e:S) U H K E)=(wE Θ cl a U H (fun x H1=>wE Θ cl i U H1 (fun j H2=>CK H2 (fun u H3=>wE Θ cl e U H3 (fun y H4=>xD H4 (fun z H5=>yv z H5 (K .next U) x j) o u y) E) x j) E) E):=rfl
theorem Rl:(wS Θ cl (.pT t a b:S) U H K E)=(wT Θ cl t U H (fun c H1=>VZ Θ cl c a b U H1 K E) E):=rfl
theorem Rm:(wS Θ cl (.F8 t b:S) U H K E)=(∃n,yx (sX Θ cl t E) (vB Θ cl b E) n U H K):=rfl
theorem V1:(wS Θ cl (.fr t src b:S) U H K E)=(wE Θ cl src U H (fun x H1=>qr H1 (fun l ok=>rY (lp Θ cl t b E) ok l U H1 K) x) E):=rfl
theorem ad8:(wS Θ cl (.UZ t src b:S) U H K E)=(wE Θ cl src U H (fun x H1=>∃r es ep,x=.ref r/\H1 r=some (.dict es ep)/\es.length<=16384/\rY (lp Θ cl t b E) (fun H'=>H' r=some (.dict es ep)) (es.map fun e=>.tup [.int e.1,e.2]) U H1 K) E):=rfl
theorem ad9:(wS Θ cl (.U0 src:S) U H K E)=(wE Θ cl src U H (fun x H1=>x=.tup []/\K .next U H1) E):=rfl
theorem V2:(wS Θ cl (.raise C as:S) U H K E)=(wEs Θ cl as U H (fun vs H1=>(∃s,vs=[.str s])/\E C H1) E):=rfl
theorem ZK:(wS Θ cl (.VK b C h:S) U H K E)=(wSs Θ cl b U H K (fun C' H'=>if C'=C then wSs Θ cl h U H' K E else E C' H')):=rfl
theorem Nt:(wSs Θ cl (.nil:Ss) U H K E)=(K .next U H):=rfl
theorem JP:(wSs Θ cl (.cons s r:Ss) U H K E)=(wS Θ cl s U H (kc (rest Θ cl r K E) K) E):=rfl
theorem ZL:kc R K .next U H=R U H:=rfl
theorem ZM:kc R K .cont U H=K .cont U H:=rfl
theorem ae0:kc R K .brk U H=K .brk U H:=rfl
theorem ae1:kc R K (.ret v) U H=K (.ret v) U H:=rfl
theorem ZN:fK R K .next U H=R U H:=rfl
theorem ZO:fK R K .cont U H=R U H:=rfl
theorem ae2:fK R K .brk U H=K .next U H:=rfl
theorem ae3:fK R K (.ret v) U H=K (.ret v) U H:=rfl
theorem ZP:rK Q .next U H=Q .none H:=rfl
theorem ae4:rK Q (.ret v) U H=Q v H:=rfl
theorem ae5:qM true a b=a:=rfl
theorem ae6:qM false a b=b:=rfl
theorem U1:yy cl (.user g a) k as H Q E=cl g (.ref a::as) H Q E:=rfl
theorem JQ:yy cl (.lst a) k as H Q E=∃l,H a=some (.list l)/\qS a l H Q k as:=rfl
theorem V3:yy cl (.uH a) k as H Q E=∃es ep,H a=some (.dict es ep)/\Jv es H Q k as:=rfl
theorem V5:Cy .none p=p:=rfl
theorem V6:Cy (.bool b) p=p:=rfl
theorem ZQ:Cy (.int b) p=p:=rfl
theorem ZR:Cy (.str b) p=p:=rfl
theorem U2:Cy (.bytes b) p=p:=rfl
theorem ZS:Cy (.ref b) p=p:=rfl
theorem ZT:Cy (.typ b) p=p:=rfl
theorem ZU:Cy (.Ak a b c) p=p:=rfl
theorem ZV:Cy (.tup b) p=p:=rfl
theorem ae7:wY 0 x (y::r) k=k (x::r):=rfl
theorem ae8:wY (n+1) x (y::r) k=wY n x r fun r'=>k (y::r'):=rfl
theorem ae9:getL (v::r) 0=v:=rfl
theorem af0:getL (v::r) (n+1)=getL r n:=rfl
theorem af1:vq (v::r) 0 w=w::r:=rfl
theorem af2:vq (v::r) (n+1) w=v::vq r n w:=rfl
theorem V7:qT [] xs U=U:=rfl
theorem V8:qT (i::is) (x::xs) U=qT is xs (vq U i x):=rfl
theorem sY:rest Θ cl r K E U H=wSs Θ cl r U H K E:=rfl
theorem aq4:VZ Θ cl true a b U H K E=wSs Θ cl a U H K E:=rfl
theorem aq5:VZ Θ cl false a b U H K E=wSs Θ cl b U H K E:=rfl
end
end
section
variable[Inhabited Tg]
theorem pO{h:bp}{i:Int}{v:ai}:VR h (.int i) v↔∃t,v=.int i t:=Iff.rfl
theorem tx{h:bp}{a:Addr}{v:ai}:VR h (.ref a) v↔v=.ref a:=Iff.rfl
theorem tM{h:bp}{v:ai}:VR h .none v↔v=.none:=Iff.rfl
theorem yC{h:bp}{b:Bool}{v:ai}:VR h (.bool b) v↔v=.bool b:=Iff.rfl
theorem se{h:bp}{x:PySem.Str}{v:ai}:VR h (.str x) v↔∃t,v=.str x t:=Iff.rfl
theorem qN{h:bp}{l:List V}{v:ai}:VR h (.tup l) v↔∃a vs,v=.ref a/\a≠LL/\gJ h a (c9 vs)/\qv h l vs:=Iff.rfl
noncomputable def Rn:B2->me
 | .add=>.Add| .sub=>.Sub| .mul=>.Mult| .fdiv=>.FloorDiv| .mod=>.Mod| .pow=>.Pow
noncomputable def V9:Cm->nO
 | .eq=>.Eq| .ne=>.NotEq| .lt=>.Lt| .le=>.LtE| .gt=>.Gt| .ge=>.GtE| .Aq=>.Is| .uh=>.IsNot| .Ep=>.In| .wq=>.NotIn
inductive Ro(h:bp)(a:Addr)(l:List V):Prop where|mk (vs:List ai) (i:h.IsList a (c9 vs)) (r:qv h l vs) (n:Nat) (e:h.get? a=some (listOf (c9 vs) n))
theorem pJ{P:aq}{h:bp}{a:Addr}{l:List V}(r:OR P h a (.list l)):Ro h a l:=
 let ⟨vs,n,z7⟩:=r;⟨vs,⟨_,z7.1,rfl,n,rfl⟩,z7.2,n,z7.1⟩
theorem qv.replicate{h:bp}{l:List V}{vs:List ai}(r:qv h l vs):∀n,qv h (hH (aK n l)) (hH (aK n vs)):=by
 intro n;induction n with
 |zero=>exact rfl
 |succ n Bw=>exact by exact eU▸eU▸gx▸gx▸(r.append (Bw))
section
variable{prog:Program}{w:aP}{A:aU}{E:ai->Shared->Prop}{s:Shared}{B:Bs}{H:MH}{Q:V->MH->Prop}
theorem xE{h h':bp}{B:Bs}{P:aq}(R:Rel P B H h)(F:Fr rh LL h' B.mg){news:List (Addr×Obj)}(N:jV rh LL h' news)(sub:∀p∈CJ h,p∈news):
  (∀b o,b≠LL->h.get? b=some o->h'.get? b=some o)/\h'.Ns LL B.mg:=⟨Hr N sub,F.ns⟩
theorem Hw(vs:List ai):∀(k:Nat) (acc:Array ai),hJ (fun x1 x2=>x1++x2) acc (aK k vs.toArray)=(acc.toList++(aK k vs).flatten).toArray:=by
 intro k;induction k with
 |zero=>exact fun acc=>by simp
 |succ k EA=>exact fun acc=>by rw[eU,List.foldl_cons,EA];simp[eU,gx]
theorem foldl_rep(vs:List ai)(k:Nat):hJ (fun x1 x2=>x1++x2) #[] (aK (if vs.toArray.isEmpty=true then 0 else k) vs.toArray)=(aK k vs).flatten.toArray:=by
 rw[Hw];split
 ·rename_i h;have:vs=[]:=by simpa using h
  subst this;simp
 ·simp
theorem JR{P:aq}{h h':bp}{B:Bs}{l:List V}{vs:List ai}{n:Nat}(R:Rel P B H h)(e:h'.get? h.objs.size=some {cls:=.type "tuple",data:=.seq vs.toArray n})(r:qv h' l vs):VR h' (.tup l) (.ref h.objs.size):=
 qN.mpr ⟨_,vs,rfl,(cI R.glob.lt).symm,⟨_,e,rfl,n,rfl⟩,r⟩
theorem p6.Rp{h':bp}{t:Nat}{l:List V}{vs:List ai}{n:Nat}(R:Rel w.params B H s.heap)(k:∀b o,b≠LL->s.heap.get? b=some o->h'.get? b=some o)(kg:h'.Ns LL B.mg)
  (e:h'.get? s.heap.objs.size=some (listOf vs.toArray n))(r:qv h' l vs)(q:rj (.list l) H Q):p6 w.params B H s Q (.ref s.heap.objs.size) {s with heap:=h',toks:=t}:=
 p6.v9 (o:=.list l) (t:=t) R trivial (aF _) k kg ⟨vs,n,e,r⟩ q
theorem rC{h:bp}{a b:Int}{u v:ai}{f:ai->ai->Sem ai}{P:ai->Shared->Prop}(hx:VR h (.int a) u)(hy:VR h (.int b) v)(k:∀t t',aE (aD prog w) A (f (.int a t) (.int b t')) P E s):aE (aD prog w) A (f u v) P E s:=by obtain⟨t',rfl⟩:=pO.mp hy;obtain⟨t,rfl⟩:=pO.mp hx;exact k t t'
theorem JS{a b:List V}{u v:ai}(R:Rel w.params B H s.heap)(hx:VR s.heap (.tup a) u)(hy:VR s.heap (.tup b) v)(qz:a.length+b.length<=16384)(q:Q (.tup (a++b)) H):
  aE (aD prog w) A (nU .Add u v) (p6 w.params B H s Q) E s:=by
 obtain⟨p,vs,rfl,gp,tp,rp⟩:=qN.mp hx;obtain⟨r,us,rfl,gr,tr,rr⟩:=qN.mp hy;have la:=rp.length;have lb:=rr.length;refine add_tuples R.fr R.news tp tr (fun e=>?_) (fun e e'=>?_) (fun e e' h' F N=>?_) (cQ▸(Z.o 0x1101111116b97a87000443ba1530000001739815 [] [_,_,_,_] rfl qz la lb))
 ·subst e;repeat first|clear u|clear v|clear qz|clear e|clear vs|clear gp|clear tp|clear r|clear us|clear gr|clear tr
  obtain rfl:a=[]:=iq la.symm;exact p6.here R hy q
 ·subst e';repeat first|clear a|clear u|clear v|clear hy|clear qz|clear la|clear e|clear e'|clear vs|clear gp|clear tp|clear r|clear us|clear gr|clear tr
  obtain rfl:b=[]:=iq lb.symm;rw[aO]at q;exact p6.here R hx q
 ·obtain⟨k,kg⟩:=xE R F N (fun p hp=>.tail _ hp);have st:pY s.heap h':=pY.of k;exact p6.ext3 (t:=s.toks) R k kg (JR R (N _ (.head _)).1 ((rp.mono st).append (rr.mono st))) q
theorem JT{a:Addr}{l:List V}{n:Int}{u v:ai}(R:Rel w.params B H s.heap)(hx:VR s.heap (.ref a) u)(hy:VR s.heap (.int n) v)(e1:H a=some (.list l))(h0:(l.length:Int)*n<=16384)(hlo: -(2^63:Int)<=n)(Hq:l≠[])
  (q:rj (.list (hH (aK n.toNat l))) H Q):aE (aD prog w) A (nU .Mult u v) (p6 w.params B H s Q) E s:=by
 obtain rfl:=tx.mp hx;obtain⟨t',rfl⟩:=pO.mp hy;obtain⟨vs,hl,rl,k0,ek⟩:=pJ (R.obj _ _ e1);have la:=rl.length;have l1:1<=l.length:=by induction l using aH with|nil=>exact absurd rfl Hq|cons=>exact cH _
 have hn:n<=16384:=by
  rcases nV n 0 with h|h
  ·exact Z.ill h rfl
  ·exact aT (aT (jk (gF n).symm) (hK (bq.mpr l1) h)) h0
 have hz:vs.length*n.toNat<=16384:=by
  repeat first|clear a|clear l|clear u|clear v|clear hx|clear hy|clear e1|clear Hq|clear l1|clear t'|clear vs|clear hl|clear k0
  rcases nV n 0 with h|h
  ·refine(iw (b7 h))▸?_;exact bW _
  ·obtain⟨m,rfl⟩:=jH h;rw[la,cZ];exact bq.mp (by rw[Int.natCast_mul];exact h0)
 refine mul_list R.fr R.news ek hlo (Z.il1 hn rfl) (aN▸(Z.lb hz rfl)) fun h' F N=>?_;obtain⟨k,kg⟩:=xE R F N (fun p hp=>.tail _ hp);have nw:=(N _ (.head _)).1;rw[foldl_rep]at nw;have st:pY s.heap h':=pY.of k;exact p6.Rp (t:=s.toks) (n:=0) R k kg nw ((rl.mono st).replicate n.toNat) q
theorem Rq{o:B2}{x y:V}{u v:ai}(R:Rel w.params B H s.heap)(hx:VR s.heap x u)(hy:VR s.heap y v)(q:tw H Q o x y):
  aE (aD prog w) A (nU (Rn o) u v) (p6 w.params B H s Q) E s:=by
 induction q using tw.casesOn with
 |add q=>exact rC hx hy fun J J=>add_int (p6.tok R (pO.mpr ⟨_,rfl⟩) q)
 |sub q=>exact rC hx hy fun J J=>sub_int (p6.tok R (pO.mpr ⟨_,rfl⟩) q)
 |mul ha hb q=>exact rC hx hy fun J J=>mul_int (p6.tok R (pO.mpr ⟨_,rfl⟩) q) (IntMulOk.of_left (intBits_le_64 (Z.nno ha rfl) (Z.Hl ha rfl)))
 |fdiv h0 h1 q=>exact rC hx hy fun J J=>floordiv_int h0 (p6.tok R (pO.mpr ⟨_,rfl⟩) q) (.inl (PyProof.noPylong_small h1))
 |mod h0 q=>exact rC hx hy fun J J=>mod_int' h0 (p6.tok R (pO.mpr ⟨_,rfl⟩) q)
 |pow h0 h1 h2 q=>exact rC hx hy fun J J=>pow_int_small h0 h1 h2 (p6.tok R (pO.mpr ⟨_,rfl⟩) q)
 |VL h q=>obtain⟨t,rfl⟩:=se.mp hx;obtain⟨t',rfl⟩:=se.mp hy;exact oP (fun t' tk=>p6.tok R (se.mpr ⟨_,rfl⟩) q) (by rw[cQ];exact ae h ⋯)
 |Q6 h q=>exact JS R hx hy h q
 |ac1 ha hb h q=>obtain rfl:=tx.mp hx;obtain rfl:=tx.mp hy;obtain⟨vs,hl,rl,_⟩:=pJ (R.obj _ _ ha);obtain⟨us,hm,rm,_⟩:=pJ (R.obj _ _ hb);refine add_arrays R.fr R.news hl hm (fun h' F N=>?_) (by rw[cQ,aN,aN,rl.length,rm.length];exact ae h ⋯);have Hx:=xE R F N (fun p hp=>.tail _ hp);have st:pY s.heap h':=pY.of Hx.1;exact p6.Rp (t:=s.toks) (vs:=vs++us) (n:=0) R Hx.1 Hx.2 (N _ (.head _)).1 ((rl.mono st).append (rm.mono st)) q
 |mulL ha h hn hl q=>exact JT R hx hy ha h hn hl q
end
end
section
variable[Inhabited Tg]
theorem DR.find(k:Int)(r:DR h hs es qQ):
  (∀x,p8 k es=some x->∃v,(qQ.find? fun e=>cY k e.key).map (·.val)=some v/\VR h x v)/\(p8 k es=none->(qQ.find? fun e=>cY k e.key).map (·.val)=none):=
 r.ind (M:=fun es qQ=>(∀x,p8 k es=some x->∃v,(qQ.find? fun e=>cY k e.key).map (·.val)=some v/\VR h x v)/\(p8 k es=none->(qQ.find? fun e=>cY k e.key).map (·.val)=none)) ⟨fun x e=>(nomatch (e:none=some x)),fun J=>rfl⟩ @fun j x t v f qQ q J ih=>by
  refine Bu▸?_;refine mw▸?_
  by_cases e:j=k
  ·rw[if_pos e,show cY k (.int j t)=true from decide_eq_true e]
   exact⟨fun y hy=>⟨v,rfl,au hy▸q⟩,fun z=>(nomatch z)⟩
  ·rw[if_neg e,show cY k (.int j t)=false from decide_eq_false e]
   exact ih
theorem DR.keys(r:DR h j6 es qQ):∀e∈qQ,∃k,(bD prog w).is k e.key=true/\e.hash=(bD prog w).hash k:=
 r.ind (M:=fun J qQ=>∀e∈qQ,∃k,(bD prog w).is k e.key=true/\e.hash=(bD prog w).hash k) (fun J he=>nomatch he) @fun j x t v f qQ q J ih e he=>by
  rcases aA.mp he with rfl|he
  ·exact⟨j,decide_eq_true rfl,rfl⟩
  ·exact ih e he
noncomputable def Hy(qQ:List DictEntry)(k:Int):Option ai:=(qQ.find? fun e=>cY k e.key).map (·.val)
theorem DR.mapOf(e:h.get? a=some (gG qQ n))(r:DR h j6 es qQ):h.MapOf (bD prog w) a (Hy qQ):=
 ⟨_,qQ.toArray,n,e,⟨rfl,rfl,rfl⟩,rfl,fun e he=>DR.keys r e (by simpa using he),fun k=>by simp[findBy,Hy,bD]⟩
theorem DR.in_(r:DR h hs es qQ):(Hy qQ k).isSome=true↔p8 k es≠none:=by
 have:=DR.find k r;cases e:p8 k es with
 |none=>simp[Hy,this.2 e]
 |some x=>obtain⟨v,ev,_⟩:=this.1 x e;simp[Hy,ev]
theorem bytes_inj{a b:Array UInt8}(h:(a.toList.map fun x=>(x.toNat:Int))=b.toList.map fun x=>(x.toNat:Int)):a=b:=by
 have:a.toList=b.toList:=by refine lx (f:=fun x:UInt8=>(x.toNat:Int)) (fun x y h=>?_)|>.mp h;exact UInt8.toNat_inj.mp (by exact_mod_cast h)
 exact Array.toList_inj.mp this
theorem vV:VR h (.bytes l) v↔∃b t,v=.bytes b t/\l=b.toList.map fun x=>(x.toNat:Int):=Iff.rfl
theorem CQ(k:∀x y u v,Rr x y->VR h x u->VR h y v->e6 A s u v true)(q:yj Rr l m):∀{us vs:List ai},qv h l us->qv h m vs->us.length=vs.length/\∀j (h1:j<us.length) (h2:j<vs.length),e6 A s us[j] vs[j] true:=by
 induction q with
 |nil=>exact fun r1 r2=>by subst r1 r2;exact⟨rfl,fun j h=>absurd h (hM _)⟩
 |cons q _ ih=>
  intro us vs r1 r2;obtain⟨u,us,Rt⟩:=r1;obtain⟨v,vs,rfl,c,d⟩:=r2;obtain rfl:=Rt.1;have z:=ih Rt.2.2 d;exact⟨congrArg (· +1) z.1,fun j h1 h2=>by
   induction j with
   |zero=>exact k _ _ u v q Rt.2.1 c
   |succ j=>exact z.2 j (dA h1) (dA h2)⟩
theorem all_true(n:Nat):(dn n).all (fun J=>true)=true:=by simp
theorem Ru{us vs:List ai}(t1:gJ s.heap a us.toArray)(t2:gJ s.heap b vs.toArray)(hu:A.units<jf)(e:us.length=vs.length)(g:∀j (h1:j<us.length) (h2:j<vs.length),e6 A.in1 s us[j] vs[j] true):
  jg A s (.ref a) (.ref b) true/\jq A s (.ref a) (.ref b) false:=by have h1:=SeqAt.RcAt.tuples (A:=A) (e:=fun J=>true) t1 t2 hu (fun j h1 h2=>g j (by simpa using h1) (h2));have h2:=oS (A:=A) (e:=fun J=>true) t1 t2 hu (fun j h1 h2=>g j (h1) (by simpa using h2));rw[all_true]at h1 h2;simp only[aN,e,nz,beq_self_eq_true,nA]at h1 h2;exact⟨h1,h2⟩
theorem Nu{us vs:List ai}(t1:s.heap.IsList a us.toArray)(t2:s.heap.IsList b vs.toArray)(hu:A.units<jf)(e:us.length=vs.length)(g:∀j (h1:j<us.length) (h2:j<vs.length),e6 A.in1 s us[j] vs[j] true):
  jg A s (.ref a) (.ref b) true/\jq A s (.ref a) (.ref b) false:=by have h1:=SeqAt.RcAt.lists (A:=A) (e:=fun J=>true) t1 t2 (e) hu (fun j h1 h2=>g j (by simpa using h1) (h2));have h2:=o8 (A:=A) (e:=fun J=>true) t1 t2 (e) hu (fun j h1 h2=>g j (h1) (by simpa using h2));rw[all_true]at h1 h2;exact⟨h1,h2⟩
theorem Gp(h:jg A s (.ref a) (.ref b) true):e6 A s (.ref a) (.ref b) true:=by
 by_cases e:a=b
 ·subst e;exact mx _
 ·exact SeqAt.EqAt.of_refs e h
theorem CR:e6 A s (.bytes b t) (.bytes b t') true:=by intro prog w E Q hq;unfold eqBool;refine cC ?_;refine eA (fun J=>af (hN (az hq))) (fun J=>?_);refine af ?_;show aE _ _ (gT .Eq (.bytes b t) (.bytes b t')) _ _ _;refine eq_bytes ?_;refine dS ?_;simpa using hq
theorem Qf{s:Shared}(R:Rel P B H s.heap)(hu:A.units<jf)(ih:∀x y u v,r x y->VR s.heap x u->VR s.heap y v->e6 A.in1 s u v true)
  (q:rk H r x y)(hp:∃a b,u=.ref a/\v=.ref b)(r1:VR s.heap x u)(r2:VR s.heap y v):jg A s u v true/\jq A s u v false:=by
 obtain⟨a',b',rfl,rfl⟩:=hp;induction q using rk.casesOn with
 |tup q=>obtain⟨a,us,e1,g1,t1,l1⟩:=r1;obtain⟨b,vs,e2,g2,t2,l2⟩:=r2;cases e1;cases e2;obtain⟨e,g⟩:=CQ ih q l1 l2;exact Ru t1 t2 hu e g
 |ref ha hb q=>cases r1;cases r2;obtain⟨us,t1,l1,_⟩:=pJ (R.obj _ _ ha);obtain⟨vs,t2,l2,_⟩:=pJ (R.obj _ _ hb);obtain⟨e,g⟩:=CQ ih q l1 l2;exact Nu t1 t2 hu e g
 |none=>cases r1
 |int=>exact nomatch r1
 |str=>exact nomatch r1
 |bytes=>exact nomatch r1
theorem Nv(R:Rel P B H s.heap):∀(n:Nat) (x y:V) (u v:ai) (A:aU),sV H n x y->VR s.heap x u->VR s.heap y v->A.units+n<jf->e6 A s u v true:=by
 intro n;induction n with
 |zero=>exact fun J J J J J q J J J=>(q:False).elim
 |succ n Bw=>
  exact fun x y u v A q r1 r2 hu=>by
   have ih:∀x y u v,sV H n x y->VR s.heap x u->VR s.heap y v->e6 A.in1 s u v true:=fun x y u v q r1 r2=>Bw x y u v A.in1 q r1 r2 (by exact Z.o 0x11112a113918161a91138116 [] [_,_,_] rfl hu);have q':rk H (sV H n) x y:=q;have rc:=fun hp=>Qf R (Z.o 0x111129113a18161986 [] [_,_,_] rfl hu) ih q' hp r1 r2;induction q' using rk.casesOn with
   |none=>obtain rfl:=tM.mp r1;obtain rfl:=tM.mp r2;exact mx _
   | @int a=>obtain⟨t,rfl⟩:=pO.mp r1;obtain⟨t',rfl⟩:=pO.mp r2;have:=(kz a a t t').at A s;rwa[beq_self_eq_true]at this
   | @str a=>obtain⟨t,rfl⟩:=se.mp r1;obtain⟨t',rfl⟩:=se.mp r2;have:=(SeqRoads2.EqGives.str a a t t').at A s;rwa[beq_self_eq_true]at this
   |bytes=>obtain⟨b,t,rfl,e⟩:=vV.mp r1;obtain⟨b',t',rfl,e'⟩:=vV.mp r2;obtain rfl:=bytes_inj (e.symm.trans e');exact CR
   |tup q=>obtain⟨a,us,rfl,_⟩:=qN.mp r1;obtain⟨b,vs,rfl,_⟩:=qN.mp r2;exact Gp (rc ⟨_,_,rfl,rfl⟩).1
   |ref ha hb q=>obtain rfl:=tx.mp r1;obtain rfl:=tx.mp r2;exact Gp (rc ⟨_,_,rfl,rfl⟩).1
section
variable{prog:Program}{w:aP}{A:aU}{E:ai->Shared->Prop}{s:Shared}{B:Bs}{H:MH}{Q:V->MH->Prop}
def vt(s:Shared)(K:Prop->Prop)(r:ai)(s':Shared):Prop:=∃b p t,r=.bool b/\(b=true↔p)/\K p/\s'={s with toks:=t}
theorem vt.mk{K:Prop->Prop}(e:b=true↔p)(q:K p):vt s K (.bool b) s:=⟨b,p,s.toks,rfl,e,q,rfl⟩
theorem vt.mk'{K:Prop->Prop}(e:b=true↔p)(q:K p):vt s K (.bool b) {s with toks:=t}:=⟨b,p,t,rfl,e,q,rfl⟩
theorem Gq(R:Rel P B H h)(e:H a=some o):∃x,h.get? a=some x/\x.cls≠.type "tuple":=by obtain⟨x,ex⟩:=(R.obj a o e).there;refine⟨x,ex,fun c=>?_⟩;rcases R.FZ (.inl (e▸(fun z=>by cases z))) ex with q|q|⟨C,q⟩<;>rw[q]at c<;>simp at c
theorem tN(R:Rel P B H h)(hB:B.get dq≠none)(e:H a=some o):(a==dq)=false:=by
 rw[beq_eq_false_iff_ne];intro z;subst z;cases q:B.get dq with
 |none=>exact hB q
 |some x=>exact(R.base _ _ q).2 (.inl (e▸(fun z=>by exact nomatch z)))
theorem wF(r:OR P h a (.dict es ep)):∃qQ n,h.get? a=some (gG qQ n)/\DR h j6 es qQ:=let ⟨qQ,n,z7⟩:=r;⟨qQ,n,z7.1,z7.2.1⟩
theorem vt.t{K:Prop->Prop}(q:K True):vt s K (.bool true) s:=⟨true,True,s.toks,rfl,⟨fun J=>trivial,fun J=>rfl⟩,q,rfl⟩
theorem vt.f{K:Prop->Prop}(q:K False):vt s K (.bool false) s:=⟨false,False,s.toks,rfl,⟨fun z=>b6 z,False.elim⟩,q,rfl⟩
theorem vt.d{K:Prop->Prop}[Decidable p](q:K p):vt s K (.bool (decide p)) s:=.mk decide_eq_true_iff q
theorem Gr(R:Rel w.params B H s.heap)(hu:A.units+64<jf)(q:sV H 6 x y)(hp:∃a b,u=.ref a/\v=.ref b)(r1:VR s.heap x u)(r2:VR s.heap y v):jg A s u v true/\jq A s u v false:=
 Qf (r:=sV H 5) R (Z.off 64 hu) (fun x y u v q r1 r2=>Nv R 5 x y u v A.in1 q r1 r2 (by exact Z.off 58 hu)) q hp r1 r2
theorem CU(hx:VR s.heap (.ref a) u)(hy:VR s.heap (.ref b) v):∃a b,u=.ref a/\v=.ref b:=⟨a,b,hx,hy⟩
theorem CV(hx:VR s.heap (.tup a) u)(hy:VR s.heap (.tup b) v):∃a b,u=.ref a/\v=.ref b:=let ⟨p,_,e,_⟩:=hx;let ⟨p',_,e',_⟩:=hy;⟨p,p',e,e'⟩
theorem Ny{f:ai->ai->Sem ai}(hx:VR s.heap (.ref a) u)(hy:VR s.heap (.ref b) v)(k:aE (aD prog w) A (f (.ref a) (.ref b)) P E s):aE (aD prog w) A (f u v) P E s:=by subst hx;subst hy;exact k
theorem in_of{k:Int}{K:Prop->Prop}(R:Rel w.params B H s.heap)(hB:B.get dq≠none)(hx:VR s.heap (.int k) u)(hy:VR s.heap (.ref a) v)(ha:H a=some (.dict es ep)):
  (K (p8 k es≠none)->aE (aD prog w) A (gT .In u v) (vt s K) E s)/\(K (p8 k es=none)->aE (aD prog w) A (gT .NotIn u v) (vt s K) E s):=by
 obtain⟨qQ,n,Hz⟩:=wF (R.obj _ _ ha);obtain rfl:=tx.mp hy;obtain⟨t,rfl⟩:=pO.mp hx;have hk:(bD prog w).is k (.int k t)=true:=by simp[bD,cY]
 refine⟨fun q=>wpAny_in_of hk (tN R hB ha) (DR.mapOf Hz.1 Hz.2) (vt.mk' Hz.2.in_ q),fun q=>wpAny_notIn_of hk (tN R hB ha) (DR.mapOf Hz.1 Hz.2) (vt.mk' ?_ q)⟩;have:=DR.in_ (k:=k) Hz.2;cases h:(Hy qQ k).isSome<;>rw[h]at this<;>simpa using this
theorem CW{a b:Addr}{K:Prop->Prop}(R:Rel w.params B H s.heap)(hx:VR s.heap (.ref a) u)(hy:VR s.heap (.ref b) v)(ha:H a=some x)(hb:H b=some y):
  (K (a=b)->aE (aD prog w) A (gT .Is u v) (vt s K) E s)/\(K (a≠b)->aE (aD prog w) A (gT .IsNot u v) (vt s K) E s):=by
 obtain⟨x,Nz⟩:=Gq R ha;obtain⟨y,Wa⟩:=Gq R hb;repeat first|clear x|clear y|clear u|clear v|clear K|clear R|clear ha|clear hb|clear cy
 subst hx;subst hy;by_cases e:a=b
 ·subst e;exact⟨fun q=>wpAny_is_ref_self (vt.mk (by simp) q),fun q=>wpAny_isNot_ref_self (vt.mk (by simp) q)⟩
 ·exact⟨fun q=>wpAny_is_ref_other e Nz.1 Wa.1 Nz.2 (vt.mk (by simp[e]) q),fun q=>wpAny_isNot_ref_other e Nz.1 Wa.1 Nz.2 (vt.mk (by simp[e]) q)⟩
theorem HA{k:Int}{l:List Int}{K:Prop->Prop}(R:Rel w.params B H s.heap)(hu:A.units+64<jf)(hx:VR s.heap (.int k) u)(hy:VR s.heap (.tup (l.map .int)) v)(q:K (k∉l)):aE (aD prog w) A (gT .NotIn u v) (vt s K) E s:=by
 obtain⟨t,rfl⟩:=pO.mp hx;obtain⟨p,vs,wc⟩:=qN.mp hy;obtain rfl:=wc.1;have r:=wc.2.2.2;have all:∀(l:List Int) (vs:List ai),qv s.heap (l.map .int) vs->(∀y∈vs,∃i t,y=.int i t)/\(vs.any (cY k)=true↔k∈l):=fun l=>by
  induction l with
  |nil=>intro vs r;subst r;exact⟨fun y h=>(nomatch h),by simp⟩
  |cons i l ih=>
   rintro _ ⟨v,vs,rfl,⟨t,rfl⟩,r⟩;have Wb:=ih vs r;refine⟨fun y h=>?_,?_⟩
   ·rcases aA.mp h with rfl|h
    ·exact⟨i,t,rfl⟩
    ·exact Wb.1 y h
   ·rw[iZ,my,Wb.2,aA];exact or_congr ⟨fun z=>(of_decide_eq_true z).symm,fun z=>decide_eq_true z.symm⟩ Iff.rfl
 obtain⟨a,b⟩:=all l vs r;refine SeqAt.notIn_tupleAt (cY k) wc.2.2.1 (fun y hy=>?_) (vt.mk ?_ q)
 ·obtain⟨i,t',rfl⟩:=a y (by simpa using hy);exact(kz i k t' t).at _ s
 ·rw[dT,<-Bool.not_eq_true];exact not_congr (by simpa using b)
theorem xF{o:Cm}{x y:V}{K:Prop->Prop}(R:Rel w.params B H s.heap)(hB:B.get dq≠none)(hu:A.units+64<jf)
  (hx:VR s.heap x u)(hy:VR s.heap y v)(q:qy H K o x y):
  aE (aD prog w) A (gT (V9 o) u v) (vt s K) E s:=by
 induction q using qy.casesOn with
 |eqI q=>exact rC hx hy fun J J=>oT (vt.mk beq_iff_eq q)
 |neI q=>exact rC hx hy fun J J=>oU (vt.mk bne_iff_ne q)
 |lt q=>exact rC hx hy fun J J=>oV (.d q)
 |le q=>exact rC hx hy fun J J=>oW (.d q)
 |gt q=>exact rC hx hy fun J J=>oX (.d q)
 |ge q=>exact rC hx hy fun J J=>oY (.d q)
 |ac2 q=>cases hx;subst hy;exact jW (.t q)
 |ac3 q=>subst hx;subst hy;exact jW (.f q)
 |ac4 q=>obtain⟨t,rfl⟩:=pO.mp hx;cases hy;exact jW (.f q)
 |ac5 q=>obtain⟨p,vs,rfl,_⟩:=qN.mp hx;cases hy;exact jW (.f q)
 |VM q=>cases hx;cases hy;exact kA (.f q)
 |VN q=>cases hx;cases hy;exact kA (.t q)
 |VO q=>obtain⟨t,rfl⟩:=pO.mp hx;cases hy;exact kA (.t q)
 |VP q=>obtain⟨p,vs,rfl,_⟩:=qN.mp hx;cases hy;exact kA (.t q)
 |ac6 ha hb q=>exact(CW R hx hy ha hb).1 q
 |P9 ha hb q=>exact(CW R hx hy ha hb).2 q
 |eqS q=>obtain⟨t,rfl⟩:=se.mp hx;obtain⟨t',rfl⟩:=se.mp hy;exact oZ (vt.mk beq_iff_eq q)
 |eqB q=>obtain⟨b,t,rfl,e⟩:=vV.mp hx;obtain⟨b',t',rfl,e'⟩:=vV.mp hy;refine eq_bytes (vt.mk ?_ q);rw[beq_iff_eq];exact⟨fun z=>(by rw[e,e',z]),fun z=>(by rw[bytes_inj (e.symm.trans (z.trans e'))])⟩
 |eqT h q=>exact(Gr R hu h (CV hx hy) hx hy).1 prog w E _ (.t q)
 |neT h q=>exact(Gr R hu h (CV hx hy) hx hy).2 prog w E _ (.f q)
 |eqL h q=>exact(Gr R hu h (CU hx hy) hx hy).1 prog w E _ (.t q)
 |MN h q=>exact(Gr R hu h (CU hx hy) hx hy).2 prog w E _ (.f q)
 |VQ ha hb q=>refine Ny hx hy ?_;obtain⟨vs,hl,rl,_⟩:=pJ (R.obj _ _ ha);obtain⟨us,hm,rm,_⟩:=pJ (R.obj _ _ hb);have la:=rl.length;cases rm;exact nC hl hm (by rw[aN,la];rfl) (Z.off 64 hu) prog w E _ (.t q)
 |Ep ha q=>exact(in_of R hB hx hy ha).1 q
 |wq ha q=>exact(in_of R hB hx hy ha).2 q
 |Ju q=>exact HA R hu hx hy q
end
end
section
variable[Inhabited Tg]
def Rv:Bool:=(dn 76).all fun j=>(dn 76).all fun k=>(AT j==AT k)==bQ j k
theorem HB:Rv=true:=by decide+kernel
theorem JU(hj:j<76)(hk:k<76):(AT j==AT k)=bQ j k:=by have:=bS.mp (bS.mp HB j (dG.mpr hj)) k (dG.mpr hk);exact beq_iff_eq.mp this
theorem FR.find(hk:k<76)(r:FR P h f qQ):
  (∀x,look k f=some x->∃v,PySem.W.getL (AT k) qQ=some (some v)/\VR h x v)/\(look k f=none->PySem.W.getL (AT k) qQ=some none):=
 r.ind (M:=fun f qQ=>(∀x,look k f=some x->∃v,PySem.W.getL (AT k) qQ=some (some v)/\VR h x v)/\(look k f=none->PySem.W.getL (AT k) qQ=some none)) ⟨fun x e=>(nomatch (e:none=some x)),fun J=>rfl⟩ @fun j x t v f tK lt q J ih=>by
  unfold PySem.W.getL at ih ⊢
  rw[mw,iZ,show(DictEntry.refKey ⟨fu P (AT j),.str (AT j) t,v⟩)=false from rfl,nE,show oF (.str (AT j) t) (AT k)=bQ j k from JU lt hk,look]
  cases bQ j k with
  |true=>exact⟨fun y hy=>⟨v,rfl,au hy▸q⟩,fun z=>(nomatch z)⟩
  |false=>exact ih
theorem FR.put(hk:k<76)(hv:VR h x v)(r:FR P h f qQ):
  FR P h (put k x f) (putL (AT k) (fu P (AT k)) (.str (AT k) t) v qQ):=
 r.ind (M:=fun f qQ=>FR P h (Mine.Internal.put k x f) (putL (AT k) (fu P (AT k)) (.str (AT k) t) v qQ)) ⟨hk,t,v,[],rfl,hv,rfl⟩ @fun j y t' u f tK lt q r ih=>by
  simp only[Mine.Internal.put,putL,(show oF (.str (AT j) t') (AT k)=bQ j k from JU lt hk)]
  cases bQ j k with
  |true=>exact⟨lt,t',v,tK,rfl,hv,r⟩
  |false=>exact⟨lt,t',u,_,rfl,q,ih⟩
theorem FR.length(r:FR P h f qQ):qQ.length=f.length:=r.ind (M:=fun f qQ=>qQ.length=f.length) rfl fun J J J=>congrArg (· +1)
theorem EB(k:Nat)(x:V)(f:List (Nat×V)):(put k x f).length<=f.length+1:=by
 induction f with
 |nil=>exact aF _
 |cons y f ih=>
  show(match bQ y.1 k with|true=>(y.1,x)::f|false=>y::Mine.Internal.put k x f).length<=_;cases bQ y.1 k with
  |true=>exact bA _
  |false=>exact dC ih
noncomputable def JV(K:Frag)(attr:Option ai):Bool:=match attr with
 |none=>true
 |some a=>match jJ K a "__get__" with
  |some none=>true
  |some (some _)=>takesIn K a==some false
  |none=>false
@[irreducible] def Bx(K:Frag)(C:Addr):Bool:=hasDictIn K C&&(eP K (.ref C) "__getattribute__"==some (some (.builtin "object.__getattribute__")))&&(eP K (.ref C) "__getattr__"==some none)&&
 (eP K (.ref C) "__setattr__"==some (some (.builtin "object.__setattr__")))&&plainOver K C&&
 (dn 76).all fun k=>(match eP K (.ref C) (AT k)with|some attr=>JV K attr|none=>false)&&(takerIn K C (AT k)==some none)&& !(copiedNames.contains (AT k))
structure CX(K:Frag)(C:Addr):Prop where
 hd:hasDictIn K C=true
 ga:eP K (.ref C) "__getattribute__"=some (some (.builtin "object.__getattribute__"))
 gn:eP K (.ref C) "__getattr__"=some none
 sa:eP K (.ref C) "__setattr__"=some (some (.builtin "object.__setattr__"))
 po:plainOver K C=true
 at_:∀k<76,∃attr,eP K (.ref C) (AT k)=some attr/\JV K attr=true
 tk:∀k<76,takerIn K C (AT k)=some none
 cp:∀k<76,copiedNames.contains (AT k)=false
theorem JW{K:Frag}(h:Bx K C=true):CX K C:=by
 simp only[Bx,aR,beq_iff_eq,bS,dG,dT]at h;obtain⟨⟨⟨⟨⟨h1,h2⟩,h3⟩,h4⟩,h5⟩,h6⟩:=h;refine⟨h1,h2,h3,h4,h5,fun k hk=>?_,fun k hk=>((h6 k hk).1).2,fun k hk=>(h6 k hk).2⟩;have:=((h6 k hk).1).1;split at this
 ·rename_i attr e;exact⟨attr,e,this⟩
 ·exact nomatch this
theorem CX.own{K:Frag}(c:CX K C)(hk:k<76)(hl:lookIn (AT k) od=some (some v)):findObj K C (some od) (AT k)=some (.value v):=by
 obtain⟨attr,ha,hf⟩:=c.at_ k hk;obtain⟨cd,Wc⟩:=fh c.hd;unfold findObj;rw[Wc.1,eQ,ha,eQ];have ho:PySem.W.ownOf cd (some od) (AT k)=some (some v):=by unfold PySem.W.ownOf;rw[if_pos Wc.2];exact hl
 induction attr with
 |none=>refine ho▸?_;rfl
 |some a=>
  have hf:(match jJ K a "__get__" with|some none=>true|some (some _)=>takesIn K a==some false|none=>false)=true:=hf;cases g:jJ K a "__get__" with
  |none=>rw[g]at hf;exact nomatch hf
  |some q=>
   induction q with
   |none=>dsimp only;refine g▸?_;refine ho▸?_;rfl
   |some q=>rw[g]at hf;dsimp only;rw[g];dsimp only[eQ];refine(beq_iff_eq.mp hf)▸?_;dsimp only[eQ];refine ho▸?_;rfl
section
variable{prog:Program}{w:aP}{A:aU}{E:ai->Shared->Prop}{s:Shared}{B:Bs}{H:MH}{K:Frag}
def xG(K:Frag)(B:Bs):Prop:=∀a o,K.lookup a=some o->B.get a=some o
theorem Rel.MO(R:Rel P B H h)(k:xG K B):K.In h:=fun a o e=>(R.base a o (k a o e)).1
inductive Rw(P:aq)(h:bp)(a C:Addr)(f:List (Nat×V)):Prop where|mk (d:Addr) (qQ:List DictEntry) (n:Nat) (i:InstAt h a (gu C d) C (some (gG qQ n))) (e1:h.get? a=some (gu C d)) (e2:h.get? d=some (gG qQ n)) (r:FR P h f qQ)
theorem uW(r:OR P h a (.inst C f)):Rw P h a C f:=
 let ⟨d,qQ,n,z7⟩:=r;⟨d,qQ,n,⟨z7.1,rfl,rfl,z7.2.1⟩,z7.1,z7.2.1,z7.2.2⟩
theorem xH(r:VR h x v):handedIn v=true:=by
 induction x using V.casesOn with
 |rG=>exact r.elim
 |none=>subst r;rfl
 |bool=>subst r;rfl
 |int=>induction r using mM;subst ‹v=_›;rfl
 |str=>induction r using mM;subst ‹v=_›;rfl
 |bytes=>obtain⟨b,t,e,_⟩:=r;subst e;rfl
 |ref=>subst r;rfl
 |typ=>subst r;rfl
 |Ak=>obtain⟨b,t,u,w,e,_⟩:=r;subst e;rfl
 |tup=>obtain⟨b,t,e,_⟩:=r;subst e;rfl
structure Rx(K:Frag)(B:Bs)(Θ:Tb):Prop where
 ok:∀C,B.cls C->CX K C
 at_:∀C k x,B.cls C->Θ.attr C k=some x->∃a,eP K (.ref C) (AT k)=some (some a)/\jJ K a "__get__"=some none/\∀h:bp,(∀b o,B.get b=some o->h.get? b=some o)->VR h x a
theorem Gu(hk:k<76)(T:Rx K B Θ)(kb:xG K B)(R:Rel w.params B H s.heap)
  (hx:VR s.heap x u)(q:ur Θ k H Q x):aE (aD prog w) A (getAttr u (AT k) b) (p6 w.params B H s Q) E s:=by
 induction q using ur.casesOn with
 |own e l q=>subst hx;obtain⟨d,qQ,n,I,e1,e2,r⟩:=uW (R.obj _ _ e);obtain⟨v',CY⟩:=(r.find hk).1 _ l;have c:=T.ok _ (R.good _ _ _ e);exact get_value (R.MO kb) I c.ga (c.own hk ((jX _ _ _).trans CY.1)) (xH CY.2) (p6.tok R CY.2 q)
 |cls e l t q=>subst hx;obtain⟨d,qQ,n,I,e1,e2,r⟩:=uW (R.obj _ _ e);have c:=T.ok _ (R.good _ _ _ e);obtain⟨a',Ry⟩:=T.at_ _ k _ (R.good _ _ _ e) t;have rv:=Ry.2.2 s.heap fun b o z=>(R.base b o z).1;exact get_value (R.MO kb) I c.ga (findObj_cls c.hd Ry.1 Ry.2.1 (xH rv) (c.cp k hk) ((jX _ _ _).trans ((r.find hk).2 l))) (xH rv) (p6.tok R rv q)
noncomputable def uX(d:Addr)(h:bp):List (Addr×Obj):=(CJ h).filter fun p=>p.1 !=d
theorem yk(N:jV rh LL h' news)(sub:∀p∈uX d h,p∈news):∀b o,b≠d->b≠LL->h.get? b=some o->h'.get? b=some o:=fun b o hd g e=>
 (N (b,o) (sub _ (e8.mpr ⟨eZ.mpr ⟨b,dG.mpr (br e),by rw[if_neg g,e];rfl⟩,by simpa using hd⟩))).1
set_option tactic.hygienic true in
theorem Gv(hk:k<76)(T:∀C,B.cls C->CX K C)(kb:xG K B)(R:Rel w.params B H s.heap)
  (hx:VR s.heap x u)(hy:VR s.heap y v)(q:yM k y H Q x):aE (aD prog w) A (setAttr u (AT k) v) (fun _=>Eo w.params B H s Q) E s:=by
 obtain⟨e,q0,q⟩:=q;rename_i a C f;subst hx;obtain⟨d,qQ,n,I,e1,e2,r⟩:=uW (R.obj _ _ e);have c:=T C (R.good _ _ _ e);have X:=R.MO kb;have fd:=r.find hk;have hd:dictAt s.heap a d:=⟨_,e1,rfl⟩;have g:d≠LL:=fun z=>R.uT (z▸.inr ⟨a,C,f,e,hd⟩);have N:jV rh LL s.heap ([]++(d,gG qQ n)::uX d s.heap):=fun p hp=>by
  rcases aA.mp hp with rfl|hp
  ·exact⟨e2,g,tT _⟩
  ·exact R.news p (e8.mp hp).1
 have hl:(lookIn (AT k) (gG qQ n)).isSome=true:=by
  rw[jX];cases l:look k f with
  |some x=>obtain⟨v,l,_⟩:=fd.1 x l;rw[l];rfl
  |none=>rw[fd.2 l];rfl
 refine set_plain X I c.sa (osa_dict (s:={s with toks:=s.toks+1}) R.fr N X I rfl c.po (c.tk k hk) c.hd hl (fun _ h=>nomatch h) (fun p hp=>of_decide_eq_true (by simpa using(e8.mp hp).2)) (putName_dict _ _ _ _ _ _) rfl ?_ fun h' F' N'=>?_)
 ·rw[Nat.le_iff_lt_add_one];exact bM (cj (FR.put (t:=s.toks+1) hk hy r).length) (bM (EB k y f) (ly (jo q0) ⋯))
 ·have ks:=yk (h:=s.heap) (d:=d) N' (fun p hp=>.tail _ hp);have st:pY s.heap h':=fun b o g' e' c'=>ks b o (fun z=>R.vU e' c' (z▸.inr ⟨a,C,f,e,hd⟩)) g' e';exact Eo.Ng (t:=s.toks+2) R e hd ks F'.ns (N' _ (.head _)).1 (FR.put hk (hy.mono st) (r.mono st)) q
end
end
section
variable[Inhabited Tg]
noncomputable def sZ(e:PySem.Expr):Bool:= !(bQ e.ctorIdx 26)
theorem xI{slice:PySem.Expr}(n:sZ slice=true)(o i:ai):jY slice false o i=mN [o,i] (jj o i):=by induction slice using Expr.casesOn<;>first|rfl|exact b6 n
theorem By(n:Nat)(i:Int):idx n i=seqIndex? i n:=by
 unfold idx seqIndex?;by_cases h:i<0
 ·refine(if_pos h)▸?_;refine(if_neg (d4.mpr h))▸?_;by_cases h2:0<=i+n
  ·have:i+(n:Int)<n:=Z.o 0x11112038118686811 [_] [_] rfl h;simp[h2,this]
  ·simp[h2]
 ·by_cases h2:i<n<;>simp[if_neg h,(bJ.mp h),h2]
theorem uJ{n:Nat}{i:Int}{j:Nat}(e:idx n i=some j):(0<=i/\i<n/\j=i.toNat)\/(i<0/\-(n:Int)<=i/\j=(i+n).toNat):=by
 unfold idx at e;split at e
 ·split at e
  ·obtain rfl:=au e;exact .inl ⟨‹_›,‹_›,rfl⟩
  ·exact nomatch e
 ·split at e
  ·obtain rfl:=au e;exact .inr ⟨d4.mp ‹_›,Z.ad1 ‹_›,rfl⟩
  ·exact nomatch e
theorem Rz{α β:Type}{o:Option α}{f:α->Option β}{b:β}(e:o.bind f=some b):∃a,o=some a/\f a=some b:=cg.mp e
theorem si{h:bp}{l:List Int}{v:ai}:VR h (.bytes l) v↔∃b t,v=.bytes b t/\l=b.toList.map fun x=>(x.toNat:Int):=Iff.rfl
section
variable{prog:Program}{w:aP}{A:aU}{E:ai->Shared->Prop}{s:Shared}{B:Bs}{H:MH}
theorem yO{h:bp}{b:Addr}{o:Obj}(e:h.get? b=some o)(g:b≠LL):(b,o)∈CJ h:=
 eZ.mpr ⟨b,dG.mpr (br e),by rw[if_neg g,e];rfl⟩
theorem Rel.ne3{P:aq}{h:bp}(R:Rel P B H h){a:Addr}{o:O}(e:H a=some o):a≠LL:=fun z=>R.uT (z▸.inl (e▸(fun q=>by cases q)))
noncomputable def HC:PySem.Expr:=.Name "" ⟨0,0,0,0⟩
theorem NA{x y:V}{u v:ai}{value slice:PySem.Expr}{Q:V->MH->Prop}(n:sZ slice=true)(R:Rel w.params B H s.heap)(hx:VR s.heap x u)(hy:VR s.heap y v)(q:vr H Q x y):
  aE (aD prog w) A (i4 value slice u v) (p6 w.params B H s Q) E s:=by
 have hs:=fun o i=>xI n o i;induction q using vr.casesOn with
 |tup h e g q=>obtain⟨t,rfl⟩:=pO.mp hy;obtain⟨a,vs,rfl,_,ht,r⟩:=qN.mp hx;obtain⟨c,ec,rc⟩:=r.get g;exact fi (value':=HC) (fun J=>rfl) (item_tupleL ht (Z.Nd h rfl) (Z.Hl h rfl) (by rw[r.length,<-By];exact e) ec (p6.here R rc q) (hs _ _) (fun J=>rfl))
 | @str x i c q0 q1 e q=>
  obtain⟨t,rfl⟩:=pO.mp hy;obtain⟨t',rfl⟩:=se.mp hx;have lt:i.toNat<x.cps.size:=(i6.mp e).1;refine fi (value':=HC) (fun J=>rfl) (item_str (by simp[fitsSsize];exact⟨Z.ig q0 rfl,Z.ilt q1 rfl⟩) (Z.o 0x111128030188650 [_] [_] rfl q0) ((nY q0).mp lt) (fun J=>?_) (hs _ _) (fun J=>rfl));have ei:Txt.item x i=⟨#[c]⟩:=by unfold Txt.item Txt.charAt;rw[<-By];unfold idx;rw[if_pos q0,if_pos (show i<(x.length:Int)from(nY q0).mp lt)];simp[e]
  exact ei▸(p6.tok R (se.mpr ⟨_,rfl⟩) q)
 | @bytes l i j z e g h q=>
  obtain⟨t,rfl⟩:=pO.mp hy;obtain⟨b,t',rfl,e'⟩:=si.mp hx;have hz:l.getD j 0=z:=by rw[cD,g];rfl
  rcases uJ e with⟨h1,h2,rfl⟩|⟨h1,h2,rfl⟩
  ·exact fi (value':=HC) (fun J=>rfl) (KBw.item_K (ks:=l) e'.symm (Z.o 0x1111200000017386100000000001b385 [] [_] rfl h) h1 h2 (fun t' k J J=>by rw[hz];exact p6.tok R (pO.mpr ⟨_,rfl⟩) q) (hs _ _) (fun J=>rfl))
  ·exact fi (value':=HC) (fun J=>rfl) (KBc.itemR_K (ks:=l) e'.symm (Z.o 0x1111200000017386100000000001b385 [] [_] rfl h) h2 h1 (fun t' k J J=>by rw[hz];exact p6.tok R (pO.mpr ⟨_,rfl⟩) q) (hs _ _) (fun J=>rfl))
 |lst o h e g q=>
  obtain⟨t,rfl⟩:=pO.mp hy;obtain rfl:=tx.mp hx;obtain⟨vs,hl,r,k,ek⟩:=pJ (R.obj _ _ o);obtain⟨c,ec,rc⟩:=r.get g;refine fi (value':=HC) (fun J=>rfl) (j7 hl.typeIs slot_list_getitem.lookup ?_ (hs _ _) (fun J=>rfl));rcases uJ e with⟨h1,h2,rfl⟩|⟨h1,h2,rfl⟩
  ·exact lA hl h1 (Z.Hl h rfl) (by simpa using ec) (p6.here R rc q)
  ·exact jZ hl h1 (aN▸r.length▸h2) (Z.Nd h rfl) (by refine aN▸?_;refine r.length▸?_;simpa using ec) (p6.here R rc q)
 |uH o e q=>obtain⟨t,rfl⟩:=pO.mp hy;obtain⟨qQ,k,ek,r⟩:=wF (R.obj _ _ o);obtain rfl:=tx.mp hx;obtain⟨c,ec,rc⟩:=(DR.find _ r).1 _ e;have hm:=DR.mapOf (prog:=prog) (w:=w) ek r;exact fi (value':=HC) (fun J=>rfl) (j7 hm.typeIs slot_dict_getitem.lookup (wpAny_getItem_of (knd:=bD prog w) (decide_eq_true rfl) hm ec (p6.tok R rc q)) (hs _ _) (fun J=>rfl))
end
end
section
variable[Inhabited Tg]
theorem qv.set{h:bp}{y:V}{u:ai}(hy:VR h y u){x:List V}{v:List ai}(j:Nat)(r:qv h x v):qv h (x.set j y) (v.set j u):=r.ind (P:=fun x v=>∀j,qv h (x.set j y) (v.set j u)) (fun J=>rfl) (fun a b ih j=>by
 induction j with
 |zero=>exact⟨u,_,rfl,hy,b⟩
 |succ j=>exact⟨_,_,rfl,a,ih j⟩) j
theorem HD{u:ai}:∀{v:List ai} {j:Nat},j<v.length->ki_setL v j u=some (v.set j u):=by
 intro v;induction v with
 |nil=>exact @fun J h=>absurd h (hM _)
 |cons x r v8=>
  intro z2;induction z2 with
  |zero=>exact @fun J=>rfl
  |succ j=>exact @fun h=>by simp only[ki_setL,v8 (j:=j) (dA h),List.set_cons_succ]
section
variable{prog:Program}{w:aP}{A:aU}{E:ai->Shared->Prop}{s:Shared}{B:Bs}{H:MH}
theorem yD{P:aq}{h:bp}{a:Addr}{o:O}{ob:Obj}(R:Rel P B H h)(e:H a=some o)(eo:h.get? a=some ob):jV rh LL h ((a,ob)::uX a h):=fun p hp=>by
 rcases aA.mp hp with rfl|hp
 ·exact⟨eo,R.ne3 e,tT _⟩
 ·exact R.news p (e8.mp hp).1
theorem yP{h:bp}{a:Addr}{o o':Obj}:Upd a o o' ((a,o)::uX a h) ((a,o')::uX a h):=.head fun p hp=>by simpa using(e8.mp hp).2
theorem putBack{h h':bp}{a:Addr}{o':Obj}(N:jV rh LL h' ((a,o')::uX a h)):h'.get? a=some o'/\∀b x,b≠a->b≠LL->h.get? b=some x->h'.get? b=some x:=
 ⟨(N _ (.head _)).1,yk N fun p hp=>.tail _ hp⟩
theorem Eo.list{P:aq}{h':bp}{t:Nat}{a:Addr}{o:O}{vs:List ai}{l:List V}{n:Nat}{Q:MH->Prop}(R:Rel P B H s.heap)(e:H a=some o)(n0:o.rP)(F:Fr rh LL h' B.mg)
  (N:jV rh LL h' ((a,listOf vs.toArray n)::uX a s.heap))(r:qv s.heap l vs)(q:Q (H.upd a (.list l))):Eo P B H s Q {s with heap:=h',toks:=t}:=by exact Eo.put (t:=t) R e n0 (o:=.list l) trivial (putBack N).2 F.ns ⟨vs,n,(putBack N).1,r.mono (R.rZ e (putBack N).2)⟩ q
theorem p6.list{P:aq}{h':bp}{t:Nat}{a:Addr}{o:O}{vs:List ai}{l:List V}{n:Nat}{x:V}{v:ai}{Q:V->MH->Prop}(R:Rel P B H s.heap)(e:H a=some o)(n0:o.rP)(F:Fr rh LL h' B.mg)
  (N:jV rh LL h' ((a,listOf vs.toArray n)::uX a s.heap))(r:qv s.heap l vs)(rx:VR s.heap x v)(q:Q x (H.upd a (.list l))):p6 P B H s Q v {s with heap:=h',toks:=t}:=by have NB:=putBack N;exact p6.put (t:=t) R e n0 (o:=.list l) trivial NB.2 F.ns ⟨vs,n,NB.1,r.mono (R.rZ e NB.2)⟩ (rx.mono (R.rZ e NB.2)) q
theorem HE{z:V}{i:Int}{j:Nat}{v u:ai}{a:Addr}{l:List V}{Q:MH->Prop}(R:Rel w.params B H s.heap)(e:H a=some (.list l))(hy:VR s.heap (.int i) v)(hz:VR s.heap z u)(q0:i.natAbs<2^60)(ej:idx l.length i=some j)(q:Q (H.upd a (.list (l.set j z)))):
  aE (aD prog w) A (setItem (.ref a) v u) (fun J=>Eo w.params B H s Q) E s:=by
 obtain⟨t,rfl⟩:=pO.mp hy;obtain⟨vs,hl,r,k,ek⟩:=pJ (R.obj _ _ e);have hj:j<vs.length:=by
  rw[r.length];rcases uJ ej with⟨h1,h2,rfl⟩|⟨h1,h2,rfl⟩
  ·exact Z.tl h1 h2
  ·exact Z.tl (Z.ad0 h2) (Z.ad2 h1)
 have eq:ki_setL vs.toArray.toList j u=some (vs.set j u):=HD hj;repeat first|clear z|clear i|clear j|clear v|clear u|clear a|clear l|clear Q|clear hy|clear hj|clear vs|clear hl|clear k
 rcases uJ ej with⟨h1,h2,rfl⟩|⟨h1,h2,rfl⟩
 ·exact ki_set R.fr (yD R e ek) h1 (Z.Hl q0 rfl) eq yP fun h' F N=>Eo.list (t:=s.toks) R e trivial F N (r.set hz _) q
 ·exact ki_setNeg R.fr (yD R e ek) h1 (Z.Nd q0 rfl) (by rw[aN,r.length,<-By];exact ej) eq yP fun h' F N=>Eo.list (t:=s.toks) R e trivial F N (r.set hz _) q
theorem qv.push{h:bp}{x:V}{v:ai}{l:List V}{vs:List ai}(r:qv h l vs)(rx:VR h x v):qv h (l++[x]) (vs++[v]):=r.append ⟨v,[],rfl,rx,rfl⟩
theorem HF{x:V}{v:ai}{a:Addr}{l:List V}{Q:V->MH->Prop}(R:Rel w.params B H s.heap)(e:H a=some (.list l))(hx:VR s.heap x v)(q0:l.length<=pq)(q:Q .none (H.upd a (.list (l++[x])))):
  aE (aD prog w) A (call (.builtin "list.append") [.ref a,v]) (p6 w.params B H s Q) E s:=by obtain⟨vs,hl,r,k,ek⟩:=pJ (R.obj _ _ e);refine append_K R.fr (yD R e ek) yP (fun h' F N=>?_) (by rw[aN,r.length,cQ];have:pq=8388608:=rfl;exact Z.lb q0 rfl);rw[lO]at N;exact p6.list (t:=s.toks) R e trivial F N (r.push hx) (tM.mpr rfl) q
theorem last_eq:∀{vs:List ai} {y:ai},vs.getLast?=some y->kl_last vs=some (vs.dropLast,y)
 |[],_,h=>by simp at h
 |[x],_,h=>by simp at h;subst h;rfl
 |x::z::r,y,h=>by
  have:(z::r).getLast?=some y:=by simpa[List.getLast?_cons_cons]using h
  rw[kl_last,last_eq this];rfl
theorem qv.last{h:bp}:∀{x:List V} {v:List ai} {y:V},qv h x v->x.getLast?=some y->∃u,v.getLast?=some u/\VR h y u:=fun{x v y} r e=>by rw[jh]at e;obtain⟨u,wc⟩:=r.get e;exact⟨u,by refine jh▸?_;refine r.length▸?_;exact wc.1,wc.2⟩
theorem qv.dropLast{h:bp}{x:List V}{v:List ai}(r:qv h x v):qv h x.dropLast v.dropLast:=by rw[j8,j8,r.length];exact r.take _
theorem RB{a:Addr}{l:List V}{x:V}{Q:V->MH->Prop}(R:Rel w.params B H s.heap)(e:H a=some (.list l))(ex:l.getLast?=some x)(q0:l.length<=pq)(q:Q x (H.upd a (.list l.dropLast))):
  aE (aD prog w) A (call (.builtin "list.pop") [.ref a]) (p6 w.params B H s Q) E s:=by obtain⟨vs,hl,r,k,ek⟩:=pJ (R.obj _ _ e);obtain⟨u,Wd⟩:=r.last ex;refine kl_pop R.fr (yD R e ek) (p:=vs.dropLast) (y:=u) (last_eq Wd.1) yP (by refine r.length▸?_;refine cQ▸?_;exact ae q0 ⋯) fun h' F N=>?_;exact p6.list (t:=s.toks) R e trivial F N r.dropLast Wd.2 q
end
end
section
variable[Inhabited Tg]
def DK(h:bp):List (Int×V)->List (Int×ai)->Prop
 |[],kvs=>kvs=[]
 |(k,x)::f,kvs=>∃v r,kvs=(k,v)::r/\VR h x v/\DK h f r
theorem DK.ind{M:List (Int×V)->List (Int×ai)->Prop}(n:M [] [])(c:∀{k x v f r},VR h x v->DK h f r->M f r->M ((k,x)::f) ((k,v)::r)):∀{r:List (Int×ai)},DK h f r->M f r:=by
 induction f with
 |nil=>exact fun r=>r▸n
 |cons x xs ih=>intro r q;obtain⟨v,r,uw⟩:=q;obtain rfl:=uw.1;exact c uw.2.1 uw.2.2 (ih uw.2.2)
theorem DK.mono(st:pY h h'){es:List (Int×V)}(r:DK h es kvs):DK h' es kvs:=r.ind (M:=DK h') rfl fun a J b=>⟨_,_,rfl,a.mono st,b⟩
theorem DK.keys{es:List (Int×V)}(r:DK h es kvs):kvs.map (·.1)=es.map ar:=r.ind (M:=fun es kvs=>kvs.map (·.1)=es.map ar) rfl fun J J=>congrArg (_::·)
theorem DK.length{es:List (Int×V)}(r:DK h es kvs):kvs.length=es.length:=r.ind (M:=fun es kvs=>kvs.length=es.length) rfl fun J J=>congrArg (· +1)
theorem DK.look(k:Int){es:List (Int×V)}(r:DK h es kvs):
  (∀x,p8 k es=some x->∃v,gv kvs k=some v/\VR h x v)/\(p8 k es=none->gv kvs k=none):=
 r.ind (M:=fun es kvs=>(∀x,p8 k es=some x->∃v,gv kvs k=some v/\VR h x v)/\(p8 k es=none->gv kvs k=none)) ⟨fun x e=>(nomatch (e:none=some x)),fun J=>rfl⟩ @fun j x v f r' q J ih=>by
  refine Bu▸?_
  by_cases hj:j=k
  ·rw[if_pos hj,show gv ((j,v)::r') k=some v by simp[gv,hj]]
   exact⟨fun y hy=>⟨v,rfl,au hy▸q⟩,fun z=>(nomatch z)⟩
  ·rw[if_neg hj,show gv ((j,v)::r') k=gv r' k by simp[gv,hj]]
   exact ih
theorem DR.dk(r:DR h j6 es qQ):∃kvs,DK h es kvs/\Pairs (bD prog w) qQ kvs:=
 r.ind (M:=fun es qQ=>∃kvs,DK h es kvs/\Pairs (bD prog w) qQ kvs) ⟨[],rfl,.nil⟩ fun q J ih=>ih.elim fun kvs z=>⟨_,⟨_,kvs,rfl,q,z.1⟩,.cons (decide_eq_true rfl) rfl z.2⟩
set_option tactic.hygienic true in
theorem DK.dr{w:aP}(r:DK h es kvs)(p:Pairs (bD prog w) qQ kvs)(hk:∀e∈qQ,∃k,(bD prog w).is k e.key=true/\e.hash=(bD prog w).hash k):DR h j6 es qQ:=
 r.ind (M:=fun es kvs=>∀qQ,Pairs (bD prog w) qQ kvs->(∀e∈qQ,∃k,(bD prog w).is k e.key=true/\e.hash=(bD prog w).hash k)->DR h j6 es qQ) (fun qQ p _=>by cases p;rfl) (@fun j x v f r' q _ ih qQ p hk=>by
  cases p with
  |cons a b c=>
   rename_i en tK
   obtain⟨hs,ky,vl⟩:=en
   obtain⟨k,k1,k2⟩:=hk _ (.head _)
   obtain rfl:=(bD prog w).inj _ _ _ k1 a
   obtain⟨t,e⟩:=gy a
   exact⟨t,vl,tK,congrArg (· ::tK) (by subst e;subst k2;rfl),(show vl=v from b).symm▸q,ih _ c fun e he=>hk e (.tail _ he)⟩) qQ p hk
theorem RC:p8 k es=none↔k∉es.map ar:=by
 induction es with
 |nil=>exact⟨fun J h=>(nomatch h),fun J=>rfl⟩
 |cons y f ih=>
  rw[Bu,bL,aA,not_or];by_cases h:y.1=k
  ·subst h;simp
  ·rw[if_neg h,ih];exact⟨fun a=>⟨fun z=>h z.symm,a⟩,fun a=>a.2⟩
theorem HG(k:Int)(x:V)(es:List (Int×V)):(dput k x es).map ar=if k∈es.map ar then es.map ar else es.map ar++[k]:=by
 induction es with
 |nil=>exact(if_neg fun h=>(nomatch h)).symm
 |cons y f ih=>
  rw[Jt];by_cases h:y.1=k
  ·subst h;simp
  ·rw[if_neg h,bL,ih];simp only[bL,aA];by_cases h2:k∈f.map ar
   ·rw[if_pos h2,if_pos (.inr h2)]
   ·rw[if_neg h2,if_neg (fun z=>z.elim (fun z=>h z.symm) h2)];rfl
theorem yQ(n:(es.map ar).Nodup):((dput k x es).map ar).Nodup:=by
 rw[HG];split
 ·exact n
 ·rename_i h;exact cM.mpr ⟨n,by simp,fun a ha b hb=>by simp at hb;subst hb;exact fun z=>h (z▸ha)⟩
theorem DK.map_put{k:Int}(r:DK h es kvs):k∉es.map ar->kvs.map (fun kv=>if kv.1=k then(kv.1,v)else kv)=kvs:=
 r.ind (M:=fun es kvs=>k∉es.map ar->kvs.map (fun kv=>if kv.1=k then(kv.1,v)else kv)=kvs) (fun J=>rfl) @fun j y u f r' J J ih n=>by
  rw[bL,ih fun z=>n (.tail _ z),if_neg (show ¬j=k from fun z=>n (z▸.head _))]
theorem DK.put{k:Int}(hv:VR h x v)(r:DK h es kvs):(es.map ar).Nodup->DK h (dput k x es) (lB kvs k v):=
 r.ind (M:=fun es kvs=>(es.map ar).Nodup->DK h (dput k x es) (lB kvs k v)) (fun J=>⟨v,[],rfl,hv,rfl⟩) @fun j y u f r' q r ih n=>by
  rw[Jt]
  by_cases hj:j=k
  ·subst hj
   rw[if_pos rfl]
   refine⟨v,r',?_,hv,r⟩
   simp only[lB,iZ,decide_true,Bool.true_or,if_true,bL]
   rw[DK.map_put r (aW.mp n).1]
  ·rw[if_neg hj]
   refine⟨u,lB r' k v,?_,q,ih (aW.mp n).2⟩
   simp only[lB,iZ,hj,decide_false,nE,bL,if_false]
   split<;>rfl
section
variable{prog:Program}{w:aP}{A:aU}{E:ai->Shared->Prop}{s:Shared}{B:Bs}{H:MH}
theorem rq(prog:Program)(w:aP)(r:OR P h a (.dict es ep)):∃kvs,h.DictAt (bD prog w) a kvs ep/\DK h es kvs/\(es.map ar).Nodup:=by obtain⟨qQ,n,xJ⟩:=r;have e:=xJ.1;obtain rfl:=xJ.2.2.2;obtain⟨kvs,z7_⟩:=DR.dk (prog:=prog) (w:=w) xJ.2.1;exact⟨kvs,⟨_,qQ.toArray,e,⟨rfl,rfl,rfl⟩,rfl,fun e he=>DR.keys xJ.2.1 e (by simpa using he),z7_.2,by refine z7_.1.keys▸?_;exact xJ.2.2.1⟩,z7_.1,xJ.2.2.1⟩
theorem yR(m:h.DictOf (bD prog w) a kvs)(r:DK h es kvs)(nd:(es.map ar).Nodup):∃ep,OR P h a (.dict es ep):=by obtain⟨⟨oc,od,oda,ZW⟩,qQ,n,e,⟨h1,h2,h3⟩,h4,hk,p,_⟩:=m;simp only at h1 h2 h3 h4;subst h1 h2 h3 h4;exact⟨n,qQ.toList,n,e,r.dr p fun e he=>hk e (by simpa using he),nd,rfl⟩
theorem HH(R:Rel w.params B H s.heap)(e:H a=some (.dict es ep))(hy:VR s.heap (.int i) v)(hz:VR s.heap z u)(q0:es.length<16384)(q:∀ep,Q (H.upd a (.dict (dput i z es) ep))):
  aE (aD prog w) A (setItem (.ref a) v u) (fun J=>Eo w.params B H s Q) E s:=by obtain⟨t,rfl⟩:=pO.mp hy;obtain⟨kvs,wd⟩:=rq prog w (R.obj _ _ e);refine wpAny_setItem_pairs (hm:=wd.1.dictOf) (k:=i) (knd:=bD prog w) (hsz:=by refine wd.2.1.length▸?_;refine cQ▸?_;exact Z.lbl q0 rfl) (decide_eq_true rfl) fun h' m' sb=>?_;have ks:∀b x,b≠a->b≠LL->s.heap.get? b=some x->h'.get? b=some x:=fun b x hb J ex=>(sb.2 b hb).trans ex;have kg:h'.Ns LL B.mg:=R.glob.extBut (fun b x hb ex=>(sb.2 b hb).trans ex) (Ne.symm (R.ne3 e));obtain⟨Am,o'⟩:=yR (P:=w.params) m' ((wd.2.1.put hz wd.2.2).mono (R.rZ e ks)) (yQ wd.2.2);exact Eo.put (t:=s.toks+1) R e trivial (o:=.dict (dput i z es) Am) trivial ks kg o' (q Am)
theorem Gw(R:Rel w.params B H s.heap)(hx:VR s.heap x t)(hy:VR s.heap y v)(hz:VR s.heap z u)(q:yv z H Q x y):
  aE (aD prog w) A (setItem t v u) (fun J=>Eo w.params B H s Q) E s:=by
 induction q using yv.casesOn with
 |lst o h e q=>subst hx;exact HE R o hy hz h e q
 |uH o h q=>subst hx;exact HH R o hy hz h q
theorem Gx(R:Rel w.params B H s.heap)(r:DK s.heap es kvs)(hd:VR s.heap d v)(q:Q ((p8 i es).getD d) H):p6 w.params B H s Q ((gv kvs i).getD v) {s with toks:=s.toks+1}:=by
 cases e:p8 i es with
 |some x=>obtain⟨v,We⟩:=(r.look i).1 x e;refine We.1▸?_;have q:=e▸q;exact p6.tok R We.2 q
 |none=>refine((r.look i).2 e)▸?_;have q:=e▸q;exact p6.tok R hd q
theorem RD(hB:B.get dq≠none)(R:Rel w.params B H s.heap)(e:H a=some (.dict es ep))(hv:qv s.heap as vs)(q:Jv es H Q 19 as):
  aE (aD prog w) A (call (.builtin "dict.get") (.ref a::vs)) (p6 w.params B H s Q) E s:=by
 obtain⟨kvs,wd⟩:=rq prog w (R.obj _ _ e);obtain⟨o,RE⟩:=Heap.dictOf_iff.mp wd.1.dictOf;cases q with
 |Jw q=>obtain⟨_,_,rfl,⟨t,rfl⟩,rfl⟩:=hv;exact kdg_get1 (knd:=bD prog w) R.news (yO RE.1 (R.ne3 e)) RE.2 (tN R hB e) (decide_eq_true rfl) _ rfl (Gx (d:=.none) R wd.2.1 rfl q)
 |VU q=>obtain⟨_,_,rfl,⟨t,rfl⟩,v2,_,rfl,h2,rfl⟩:=hv;exact kdg_get2 (knd:=bD prog w) R.news (yO RE.1 (R.ne3 e)) RE.2 (tN R hB e) (decide_eq_true rfl) _ rfl (Gx R wd.2.1 h2 q)
end
end
section
variable[Inhabited Tg]
theorem sR:∀{U:List V} {i:Nat} {y:V},i<U.length->getL (vq U i y) i=y:=by
 intro U;induction U with
 |nil=>exact @fun J J h=>absurd h (hM _)
 |cons z1 r Bt=>
  intro z3;induction z3 with
  |zero=>exact @fun J J=>rfl
  |succ i=>exact @fun y h=>Bt (dA h)
theorem ui:∀{U:List V} {i j:Nat} {y:V},j≠i->getL (vq U i y) j=getL U j:=by
 intro U;induction U with
 |nil=>exact @fun J J J J=>rfl
 |cons z1 r Bt=>
  intro z3;induction z3 with
  |zero=>
   intro z4;induction z4 with
   |zero=>exact @fun J h=>absurd rfl h
   |succ j=>exact @fun J J=>rfl
  |succ i=>
   intro z5;induction z5 with
   |zero=>exact @fun J J=>rfl
   |succ j=>exact @fun y h=>Bt (fun z=>h (congrArg _ z))
theorem vC:∀{U:List V} {i:Nat} {y:V},(vq U i y).length=U.length:=by
 intro U;induction U with
 |nil=>exact @fun J J=>rfl
 |cons z1 r Bt=>
  intro z3;induction z3 with
  |zero=>exact @fun J=>rfl
  |succ i=>exact @fun y=>congrArg (· +1) (Bt)
noncomputable def qX(x:PySem.Str):Bool:= !(x==("__debug__":PySem.Str))&& !(x==("__classdict__":PySem.Str))
def w3(W:Addr->Prop)(h:bp)(env:Env)(m:PySem.Str->Option ai)(x:PySem.Str)(b:Bool)(y:V):Prop:=
 (env.kindOf x=some .local/\(b=true->W env.locals)/\(y≠.rG->∃v,m x=some v/\VR h y v))\/
 (∃c ov,(env.kindOf x=some .cell\/(env.kindOf x=some .free/\b=false))/\env.cells.lookup x=some c/\(b=true->W c)/\h.IsCell c ov/\(y≠.rG->∃v,ov=some v/\VR h y v))
structure pU(W:Addr->Prop)(B:Bs)(H:MH)(h:bp)(env:Env)(Γ:List (PySem.Str×Bool))(U:Loc):Prop where
 kind:env.scope.kind=.function
 len:U.length=Γ.length
 nd:∀(i j:Nat) (x:PySem.Str) (b c:Bool),Γ[i]? =some (x,b)->Γ[j]? =some (x,c)->i=j
 nm:∀(i:Nat) (x:PySem.Str) (b:Bool),Γ[i]? =some (x,b)->qX x=true
 pl:∃m,h.Ns env.locals m/\∀(i:Nat) (x:PySem.Str) (b:Bool),Γ[i]? =some (x,b)->w3 W h env m x b (getL U i)
 apart:∀x y c,env.cells.lookup x=some c->env.cells.lookup y=some c->x=y
 own:∀b,(b=env.locals\/∃x,env.cells.lookup x=some b)->(∃o,h.get? b=some o)/\¬Own H h b/\b≠LL/\B.get b=none
 wx:∀b,W b->(b=env.locals\/∃x,env.cells.lookup x=some b)
section
variable{W:Addr->Prop}{B:Bs}{H H':MH}{h h':bp}{env:Env}{Γ:List (PySem.Str×Bool)}{U:Loc}
theorem w3.mono(p:w3 W h env m x b y)(st:pY h h')(kc:∀c ov,env.cells.lookup x=some c->h.IsCell c ov->h'.IsCell c ov):w3 W h' env m x b y:=by
 rcases p with⟨a,b',c⟩|⟨c,ov,a,b',d,e,f⟩
 ·exact .inl ⟨a,b',fun z=>let ⟨v,z7⟩:=c z;⟨v,z7.1,z7.2.mono st⟩⟩
 ·exact .inr ⟨c,ov,a,b',d,kc c ov b' e,fun z=>let ⟨v,z7⟩:=f z;⟨v,z7.1,z7.2.mono st⟩⟩
theorem pU.next{X:Addr->Prop}(F:pU W B H s.heap env Γ U)(hX:∀b,(b=env.locals\/∃x,env.cells.lookup x=some b)->¬X b)(N:Nx X H s H' s'):pU W B H' s'.heap env Γ U:=by
 have k:∀b o,(b=env.locals\/∃x,env.cells.lookup x=some b)->s.heap.get? b=some o->s'.heap.get? b=some o/\¬Own H' s'.heap b:=fun b o hb e=>have z7:=F.own b hb;N.keep b o z7.2.2.1 (hX b hb) e z7.2.1;obtain⟨m,CZ⟩:=F.pl;refine⟨F.kind,F.len,F.nd,F.nm,⟨m,CZ.1.at fun o e=>(k _ o (.inl rfl) e).1,fun i x b e=>(CZ.2 i x b e).mono N.qb fun c ov ec ic=>?_⟩,F.apart,fun b hb=>?_,F.wx⟩
 ·obtain⟨o,As⟩:=ic;exact⟨o,(k c o (.inr ⟨x,ec⟩) As.1).1,As.2⟩
 ·obtain⟨⟨o,e⟩,r⟩:=F.own b hb;exact⟨⟨o,(k b o hb e).1⟩,(k b o hb e).2,r.2⟩
theorem pU.pI(F:pU W B H s.heap env Γ U)(N:Nx X0 H s H' s'):pU W B H' s'.heap env Γ U:=F.next (fun J J z=>z) N
theorem s9(h:qX x=true):(x==("__debug__":PySem.Str))=false:=by simp only[qX,aR,dT]at h;exact h.1
theorem JX(h:qX x=true):(x==("__classdict__":PySem.Str))=false:=by simp only[qX,aR,dT]at h;exact h.2
variable{prog:Program}{w:aP}{A:aU}{E:ai->Shared->Prop}{s:Shared}
theorem Gy(R:Rel w.params B H s.heap)(F:pU W B H s.heap env Γ U)(e:Γ[i]? =some (x,b))(q:getL U i≠.rG/\Q (getL U i) H):
  aE (aD prog w) A (loadName env x) (p6 w.params B H s Q) E s:=by
 obtain⟨m,CZ⟩:=F.pl;have n:=CZ.1;have pl:=CZ.2;have nm:=F.nm i x b e;rcases pl i x b e with⟨a,b',c⟩|⟨c,ov,a,b',d,ic,f⟩
 ·obtain⟨v,Wf⟩:=c q.1;exact wpAny_loadName_local F.kind a n Wf.1 (p6.here R Wf.2 q.2)
 ·obtain⟨v,ev,rv⟩:=f q.1;repeat first|clear i|clear x|clear b|clear Q|clear e|clear m|clear n|clear pl|clear c|clear ov|clear d|clear f|clear v
  subst ev;rcases a with a|⟨a,_⟩
  ·exact wpAny_loadName_cell F.kind a b' ic (p6.here R rv q.2)
  ·exact wpAny_loadName_free F.kind a b' ic (p6.here R rv q.2) (JX nm)
theorem w7(n:h.Ns a m):∀o,h.get? a=some o->¬Tp o:=fun o e t=>by obtain⟨o',es,ep,e',d,_⟩:=n;rw[e]at e';obtain rfl:=au e';have:=t.2;have this:=d▸this;exact this
theorem yS(n:h.IsCell a v):∀o,h.get? a=some o->¬Tp o:=fun o e t=>by obtain⟨o',e',d⟩:=n;rw[e]at e';obtain rfl:=au e';have:=t.2;have this:=d▸this;exact this
theorem yT(n:h.Ns a m)(k:h.IsCell c v):c≠a:=fun z=>by subst z;obtain⟨o,es,ep,Jo⟩:=n;obtain⟨o',e',d'⟩:=k;rw[Jo.1]at e';obtain rfl:=au e';have d':=Jo.2.1▸d';cases d'
inductive Gz(W:Addr->Prop)(P:aq)(B:Bs)(H:MH)(s:Shared)(env:Env)(Γ:List (PySem.Str×Bool))(K:Loc->MH->Prop)(s':Shared):Prop where|mk (qp:Loc) (H':MH) (R:Rel P B H' s'.heap) (N:Nx W H s H' s') (F:pU W B H' s'.heap env Γ qp) (q:K qp H')
theorem Nx.but(R:Rel P B H s.heap)(hn:¬Own H s.heap L)(hg:L≠LL)(hL:∀o,s.heap.get? L=some o->¬Tp o)(hs:∀b o,b≠L->s.heap.get? b=some o->h'.get? b=some o)(hW:W L):
  Nx W H s H {s with heap:=h',toks:=t}:=
 Nx.qR ((R.max W).but hn (by unfold CI;dsimp only;rw[if_pos (.inr (.inl hW))]) hg hL hs) (pY.but hs hL)
theorem EC(R:Rel P B H h)(h1:¬Own H h L)(hs:∀b o,b≠L->h.get? b=some o->h'.get? b=some o)(a:¬Own H h b):¬Own H h' b:=fun z=>by
 rcases z with z|⟨a',C,f,ea,q'⟩
 ·exact a (.inl z)
 ·refine a (.inr ⟨a',C,f,ea,?_⟩);obtain⟨ob,eb⟩:=(R.obj _ _ ea).there;obtain⟨o2,e2,q2⟩:=q';rw[hs a' ob (fun z=>h1 (.inl (z▸ea▸(ix _)))) eb]at e2;obtain rfl:=au e2;exact⟨ob,eb,q2⟩
theorem w8{K:Loc->MH->Prop}(R:Rel w.params B H s.heap)(F:pU W B H s.heap env Γ U)(e:Γ[i]? =some (x,true))(hy:VR s.heap y v)(q:K (vq U i y) H):
  aE (aD prog w) A (storeName env x v) (fun J=>Gz W w.params B H s env Γ K) E s:=by
 obtain⟨m,n,pl⟩:=F.pl;have hi:i<U.length:=F.len▸(bK.mp e).1;have ex:∀(L:Addr) (h':bp) (t:Nat),(∀o,s.heap.get? L=some o->¬Tp o)->(L=env.locals\/∃x,env.cells.lookup x=some L)->W L->(∀b,b≠L->h'.get? b=s.heap.get? b)->(∃o,h'.get? L=some o)->
   (∃m,h'.Ns env.locals m/\∀(i':Nat) (x':PySem.Str) (b:Bool),Γ[i']? =some (x',b)->w3 W h' env m x' b (getL (vq U i y) i'))->Gz W w.params B H s env Γ K {s with heap:=h',toks:=t}:=by
  intro L h' t nt hl hw sb ⟨oL,eL⟩ pl'
  obtain⟨⟨o,eo⟩,h1,h2,h3⟩:=F.own L hl
  have hs:∀b o,b≠L->s.heap.get? b=some o->h'.get? b=some o:=fun b o hb e=>(sb b hb).trans e
  have R':=R.but h1 h3 h2 nt hs
  have N:Nx W H s H {s with heap:=h',toks:=t}:=Nx.but R h1 h2 nt hs hw
  refine⟨_,H,R',N,⟨F.kind,by refine vC.symm▸?_;exact F.len,F.nd,F.nm,pl',F.apart,fun b hb=>?_,F.wx⟩,q⟩
  obtain⟨⟨o',e'⟩,a,g,c⟩:=F.own b hb
  refine⟨?_,EC R h1 hs a,g,c⟩
  by_cases hbL:b=L
  ·exact hbL▸⟨oL,eL⟩
  ·exact⟨o',hs b o' hbL e'⟩
 rcases pl i x true e with⟨a,b',c⟩|⟨c,ov,a,b',d,ic,f⟩
 ·refine wpAny_storeName_local a n (fun h' n' sb=>ex env.locals h' _ (w7 n) (.inl rfl) (b' rfl) sb.2 (let ⟨o,es,ep,e,_⟩:=n';⟨o,e⟩) ⟨_,n',fun i' x' b0 e'=>?_⟩) (by refine F.kind▸?_;rfl);have st:pY s.heap h':=pY.but (fun b o hb e=>(sb.2 b hb).trans e) (w7 n);have kc:∀x c ov,env.cells.lookup x=some c->s.heap.IsCell c ov->h'.IsCell c ov:=fun x c ov J ic=>let ⟨o,e,d⟩:=ic;⟨o,(sb.2 c (yT n ic)).trans e,d⟩;by_cases RF:i'=i
  ·subst RF;rw[e]at e';cases e';rw[sR hi];exact .inl ⟨a,b',fun J=>⟨v,by simp,hy.mono st⟩⟩
  ·refine(ui RF).symm▸?_;have hxx:x'≠x:=fun z=>RF (F.nd i' i x' b0 true e' (z▸e));rcases(pl i' x' b0 e').mono st (kc x')with⟨a1,a2,a3⟩|z
   ·exact .inl ⟨a1,a2,fun z=>let ⟨v,e,r⟩:=a3 z;⟨v,by simp[hxx,e],r⟩⟩
   ·exact .inr z
 ·have ac:env.kindOf x=some .cell:=a.elim id fun z=>by exact Z.tF z.2
  refine wpAny_storeName_cell F.kind ac b' ic fun h' ic' sb=>?_;have nc:=yT n ic;refine ex c h' s.toks (yS ic) (.inr ⟨x,b'⟩) (d rfl) sb.2 (let ⟨o,e,_⟩:=ic';⟨o,e⟩) ⟨m,n.at (fun o e=>(sb.2 _ nc.symm).trans e),fun i' x' b0 e'=>?_⟩;have st:pY s.heap h':=pY.but (fun b o hb e=>(sb.2 b hb).trans e) (yS ic);by_cases RF:i'=i
  ·subst RF;rw[e]at e';cases e';rw[sR hi];exact .inr ⟨c,some v,.inl ac,b',d,ic',fun J=>⟨v,rfl,hy.mono st⟩⟩
  ·refine(ui RF).symm▸?_;have hxx:x'≠x:=fun z=>RF (F.nd i' i x' b0 true e' (z▸e));exact(pl i' x' b0 e').mono st fun c' ov' ec ic2=>by obtain⟨o,e3,d3⟩:=ic2;exact⟨o,(sb.2 c' (fun z=>hxx (F.apart x' x c (z▸ec) b'))).trans e3,d3⟩
end
end
section
variable[Inhabited Tg]
inductive Gl where
 |val(v:V)|fn(f:Nat)|cls(C:Addr)|blt(b:Bi)|ty(n:String)
structure Cx where
 pl:List (PySem.Str×Bool)
 kinds:List (PySem.Str×cw)
noncomputable def place:List (PySem.Str×Bool)->PySem.Str->Option Nat
 |[],_=>none
 |(y,_)::r,x=>if y=x then some 0 else(place r x).map (· +1)
theorem tc:∀{i:Nat},place l x=some i->∃b,l[i]? =some (x,b):=by
 induction l with
 |nil=>exact fun h=>nomatch h
 |cons y r ih=>
  intro i h;have h:(if y.1=x then some 0 else(place r x).map (· +1))=some i:=h;by_cases e:y.1=x
  ·rw[if_pos e]at h;obtain rfl:=au h;exact⟨y.2,e▸rfl⟩
  ·rw[if_neg e]at h;obtain⟨k,e,rfl⟩:=bG.mp h;exact ih e
def uY(x:PySem.Str):Option Nat:=(dn 76).find? fun k=>AT k==x
theorem vW(h:uY x=some k):k<76/\x=AT k:=by have h1:=List.find?_some h;exact⟨dG.mp (List.mem_of_find?_eq_some h),(beq_iff_eq.mp h1).symm⟩
noncomputable def xK:List X->Xs
 |[]=>.nil
 |x::r=>.cons x (xK r)
noncomputable def RG:me->Option B2
 | .Add=>some .add| .Sub=>some .sub| .Mult=>some .mul| .FloorDiv=>some .fdiv| .Mod=>some .mod| .Pow=>some .pow|_=>none
theorem Bz(h:RG o=some b):o=Rn b:=by induction o using Operator.casesOn<;>cases h<;>rfl
noncomputable def NC:nO->Option Cm
 | .Eq=>some .eq| .NotEq=>some .ne| .Lt=>some .lt| .LtE=>some .le| .Gt=>some .gt| .GtE=>some .ge| .Is=>some .Aq| .IsNot=>some .uh| .In=>some .Ep| .NotIn=>some .wq
theorem xM(h:NC o=some b):o=V9 b:=by induction o using CmpOp.casesOn<;>obtain rfl:=au h<;>rfl
noncomputable def noStar(e:Expr):Bool:= !(bQ e.ctorIdx 22)
structure Cfg where
 prog:Program
 w:aP
 B:Bs
 K:Frag
 Θ:Tb
 gl:PySem.Str->Option Gl
 fa:Nat->Addr
 call:pK
 gm:PySem.Str->Option ai
def HI(B:Bs)(h:bp):Prop:=∀b o,B.get b=some o->h.get? b=some o
theorem Rel.sup(R:Rel P B H h):HI B h:=fun b o e=>(R.base b o e).1
theorem Nx.up(N:Nx X0 H s H1 s1):Nx W H s H1 s1:=N.weak fun J z=>z.elim
structure qG(env:Env)(Γ:Cx):Prop where
 kind:env.scope.kind=.function
 names:env.scope.names=Γ.kinds
 glob:env.globals=fS
 blt:env.builtins=mz
noncomputable abbrev EF:=MH->Shared->QE->ai->Shared->Prop
noncomputable def ED:Bi->ai
 | .len=>.builtin "len"| .abs=>.builtin "abs"| .ord=>.builtin "ord"| .yi=>.type "int"| .sum=>.builtin "sum"| .max=>.builtin "max"| .min=>.builtin "min"
 | .list=>.type "list"| .tuple=>.type "tuple"| .dict=>.type "dict"| .bytes=>.type "bytes"| .sorted=>.builtin "sorted"| .range=>.type "range"| .ri=>.builtin "isinstance"
def yU(c:Cfg)(x:PySem.Str)(v:ai):Prop:=c.gm x=none/\∃mb,(∀h,HI c.B h->h.Ns LL c.B.mg->h.Ns fS c.gm/\h.Ns mz mb)/\mb x=some v
structure Cfg.Ok(c:Cfg)(A:aU)(W:Addr->Prop)(Ef:EF):Prop where
 hh:A.handled=none
 en:∀{H H1:MH} {s s1 s':Shared} {X:QE} {v:ai},Nx W H s H1 s1->Ef H1 s1 X v s'->Ef H s X v s'
 no:∀{H:MH} {s s':Shared} {v:ai},¬Ef H s ub v s'
 kb:xG c.K c.B
 tb:Rx c.K c.B c.Θ
 sm:c.B.get dq≠none
 main:∀h,HI c.B h->h.Ns LL c.B.mg->h.Ns fS c.gm
 val:∀x v,c.gl x=some (.val v)->∃u,c.gm x=some u/\∀h,HI c.B h->VR h v u
 fn:∀x f,c.gl x=some (.fn f)->c.gm x=some (.ref (c.fa f))/\hU c.K (.ref (c.fa f))=true
 blt:∀x b,c.gl x=some (.blt b)->yU c x (ED b)
 ty:∀x n,c.gl x=some (.ty n)->yU c x (.type n)
 cls:∀x C,c.gl x=some (.cls C)->c.gm x=some (.ref C)/\hU c.K (.ref C)=true
 new:∀C f,c.Θ.init C=some f->c.B.cls C/\makesIn c.K C=true/\eP c.K (.ref C) "__init__"=some (some (.ref (c.fa f)))/\lC c.K (.ref (c.fa f))=some (.type "function")
 pD:∀C k g,c.B.cls C->c.Θ.pD C k=some g->k<76/\eP c.K (.ref C) (AT k)=some (some (.ref (c.fa g)))/\lC c.K (.ref (c.fa g))=some (.type "function")/\hU c.K (.ref (c.fa g))=true
 hu:A.units+64<jf
 call:∀f as vs H s Q X,Rel c.w.params c.B H s.heap->qv s.heap as vs->c.call f as H Q X->eB (aD c.prog c.w) A (.call (.ref (c.fa f)) ⟨vs,[]⟩) (nP (p6 c.w.params c.B H s Q) (Ef H s X)) s
 init:∀C Jn f as vs H s Q X,Rel c.w.params c.B H s.heap->qv s.heap as vs->c.call f as H Q X->eB (aD c.prog c.w) (A.under (.builtin "type.__call__" ⟨.ref C::Jn,[]⟩)) (.call (.ref (c.fa f)) ⟨vs,[]⟩) (nP (p6 c.w.params c.B H s Q) (Ef H s X)) s
inductive RH(P:aq)(B:Bs)(H:MH)(s:Shared)(n:Nat)(Q:List V->MH->Prop)(vs:List ai)(s':Shared):Prop where|mk (xs:List V) (H':MH) (r:qv s'.heap xs vs) (l:vs.length=n) (R:Rel P B H' s'.heap) (N:Nx X0 H s H' s') (q:Q xs H')
inductive Qg(P:aq)(B:Bs)(H:MH)(s:Shared)(Q:Bool->MH->Prop)(b:Bool)(s':Shared):Prop where|mk (H':MH) (R:Rel P B H' s'.heap) (N:Nx X0 H s H' s') (q:Q b H')
section
variable{P:aq}{B:Bs}{H H1:MH}{s s1 s':Shared}
theorem p6.after(N:Nx X0 H s H1 s1)(k:p6 P B H1 s1 Q v s'):p6 P B H s Q v s':=let ⟨x,H',a,b,c,d⟩:=k;⟨x,H',a,b,N.trans c,d⟩
theorem Qg.after(N:Nx X0 H s H1 s1)(k:Qg P B H1 s1 Q v s'):Qg P B H s Q v s':=let ⟨H',b,c,d⟩:=k;⟨H',b,N.trans c,d⟩
variable{M:je}{A:aU}{E:ai->Shared->Prop}{α:Type}
theorem tI{E':ai->Shared->Prop}(en:∀v s',E' v s'->E v s'){m:Sem ai}{Q:V->MH->Prop}{K:ai->Shared->Prop}(h:aE M A m (p6 P B H s Q) E' s)(k:∀v s1 x H1,VR s1.heap x v->Rel P B H1 s1.heap->Nx X0 H s H1 s1->Q x H1->K v s1):aE M A m K E s:=
 aB h (fun v s1 ⟨x,H1,a,b,c,d⟩=>k v s1 x H1 a b c d) en
theorem rD{m:Sem ai}{Q:V->MH->Prop}{K:ai->Shared->Prop}(h:aE M A m (p6 P B H s Q) E s)(k:∀v s1 x H1,VR s1.heap x v->Rel P B H1 s1.heap->Nx X0 H s H1 s1->Q x H1->K v s1):aE M A m K E s:=
 aB h (fun v s1 ⟨x,H1,a,b,c,d⟩=>k v s1 x H1 a b c d) fun J J z=>z
theorem RI{E':ai->Shared->Prop}(en:∀v s',E' v s'->E v s'){m:Sem (List ai)}{n:Nat}{Q:List V->MH->Prop}{K:List ai->Shared->Prop}(h:aE M A m (RH P B H s n Q) E' s)(k:∀v s1 x H1,qv s1.heap x v->v.length=n->Rel P B H1 s1.heap->Nx X0 H s H1 s1->Q x H1->K v s1):aE M A m K E s:=
 aB h (fun v s1 ⟨x,H1,a,l,b,c,d⟩=>k v s1 x H1 a l b c d) en
theorem JY{m:Sem (List ai)}{n:Nat}{Q:List V->MH->Prop}{K:List ai->Shared->Prop}(h:aE M A m (RH P B H s n Q) E s)(k:∀v s1 x H1,qv s1.heap x v->v.length=n->Rel P B H1 s1.heap->Nx X0 H s H1 s1->Q x H1->K v s1):aE M A m K E s:=
 aB h (fun v s1 ⟨x,H1,a,l,b,c,d⟩=>k v s1 x H1 a l b c d) fun J J z=>z
theorem Wg{E':ai->Shared->Prop}(en:∀v s',E' v s'->E v s'){m:Sem Bool}{Q:Bool->MH->Prop}{K:Bool->Shared->Prop}(h:aE M A m (Qg P B H s Q) E' s)(k:∀v s1 H1,Rel P B H1 s1.heap->Nx X0 H s H1 s1->Q v H1->K v s1):aE M A m K E s:=
 aB h (fun v s1 ⟨H1,b,c,d⟩=>k v s1 H1 b c d) en
theorem yz{m:Sem Bool}{Q:Bool->MH->Prop}{K:Bool->Shared->Prop}(h:aE M A m (Qg P B H s Q) E s)(k:∀v s1 H1,Rel P B H1 s1.heap->Nx X0 H s H1 s1->Q v H1->K v s1):aE M A m K E s:=
 aB h (fun v s1 ⟨H1,b,c,d⟩=>k v s1 H1 b c d) fun J J z=>z
end
theorem BA(e:b=true↔p)(q:qm Q p):Q b:=by
 induction b using aX with
 |true=>exact q.1 (e.mp rfl)
 |false=>exact q.2 fun z=>b6 (e.mpr z)
theorem BC(R:Rel w.params B H s.heap)(hx:VR s.heap x v)(q:rI (qm fun t=>Q t H) x):
  aE (aD prog w) A (truthy v) (Qg w.params B H s Q) E s:=by
 induction q using rI.casesOn with
 |none q=>subst hx;exact truthy_none ⟨H,R,Nx.refl _ _ _,q.2 id⟩
 |bool q=>subst hx;exact dS ⟨H,R,Nx.refl _ _ _,BA Iff.rfl q⟩
 |int q=>obtain⟨t,rfl⟩:=pO.mp hx;exact oB ⟨H,R,Nx.refl _ _ _,BA bne_iff_ne q⟩
section
variable{c:Cfg}{A:aU}{W:Addr->Prop}{Ef:EF}
def qK(c:Cfg)(A:aU)(W:Addr->Prop)(Ef:EF)(Γ:Cx)(e:Expr)(x:X):Prop:=∀(env:Env) (U:Loc) (H:MH) (s:Shared) (Q:QV) (X:QE),qG env Γ->Rel c.w.params c.B H s.heap->pU W c.B H s.heap env Γ.pl U->
 wE c.Θ c.call x U H Q X->aE (aD c.prog c.w) A (fE e env) (p6 c.w.params c.B H s Q) (Ef H s X) s
def yV(c:Cfg)(A:aU)(W:Addr->Prop)(Ef:EF)(Γ:Cx)(e:Expr)(x:X):Prop:=∀(env:Env) (U:Loc) (H:MH) (s:Shared) (Q:Bool->MH->Prop) (X:QE),qG env Γ->Rel c.w.params c.B H s.heap->pU W c.B H s.heap env Γ.pl U->
 wT c.Θ c.call x U H Q X->aE (aD c.prog c.w) A (isTrue e env (fE e env)) (Qg c.w.params c.B H s Q) (Ef H s X) s
theorem EG(h:place Γ.pl x=some i):qK c A W Ef Γ (.Name x pos) (.v i):=fun env U H s Q X V R F q=>by obtain⟨b,e⟩:=tc h;dsimp only[ad5]at q;exact wpAny_Name (Gy R F e (F9 q)) (s9 (F.nm i x b e))
theorem HJ(C:c.Ok A W Ef)(h:(qX x&&Γ.kinds.lookup x==some .globalImplicit)=true)(g:c.gl x=some (.val v)):qK c A W Ef Γ (.Name x pos) (.c v):=fun env U H s Q X V R F q=>by rw[aR,beq_iff_eq]at h;obtain⟨u,JZ⟩:=C.val x v g;dsimp only[ad4]at q;refine du V.kind (by unfold Env.kindOf;refine V.names▸?_;exact h.2) (jb (by refine V.glob▸?_;exact C.main _ R.sup R.glob) JZ.1 (p6.here R (JZ.2 _ R.sup) q)) (s9 h.1)
theorem J0(C:c.Ok A W Ef){Γ:Cx}{l r:Expr}{o:me}{b:B2}(h:RG o=some b)(a1:qK c A W Ef Γ l x)(a2:qK c A W Ef Γ r y):qK c A W Ef Γ (.BinOp l o r pos) (.bin b x y):=fun env U H s Q X V R F q=>by obtain rfl:=Bz h;dsimp only[Jx]at q;refine wpAny_BinOp (rD (a1 env U H s _ X V R F q) fun v1 s1 x1 H1 r1 R1 N1 q1=>tI (fun J J=>C.en N1.up) (a2 env U H1 s1 _ X V R1 (F.pI N1) q1) fun v2 s2 x2 H2 r2 R2 N2 q2=>?_);exact aB (Rq R2 (r1.mono N2.qb) r2 q2) (fun J J z=>(z.after N2).after N1) fun J J z=>z
theorem J1{Γ:Cx}{l:Expr}{pos:Pos}{x:X}(a1:qK c A W Ef Γ l x):qK c A W Ef Γ (.UnaryOp .USub l pos) (.neg x):=fun env U H s Q X V R F q=>by dsimp only[Jy]at q;refine kO (rD (a1 env U H s _ X V R F q) fun v1 s1 x1 H1 r1 R1 N1 q1=>?_);obtain⟨i,ux⟩:=q1;obtain rfl:=ux.1;obtain⟨t,rfl⟩:=pO.mp r1;exact kB ((p6.tok R1 (pO.mpr ⟨_,rfl⟩) ux.2).after N1)
theorem ND{Γ:Cx}{l:Expr}{pos:Pos}{x:X}(a1:qK c A W Ef Γ l x):qK c A W Ef Γ (.UnaryOp .Not l pos) (.no x):=fun env U H s Q X V R F q=>by dsimp only[Qd]at q;refine kO (rD (a1 env U H s _ X V R F q) fun v1 s1 x1 H1 r1 R1 N1 q1=>?_);refine not_value (yz (BC (Q:=fun t H=>Q (.bool (!t)) H) R1 r1 q1) fun b s2 H2 R2 N2 q2=>?_);exact(p6.here R2 (yC.mpr rfl) q2).after N2|>.after N1
theorem J2(C:c.Ok A W Ef){Γ:Cx}{a b:Expr}{rest:List Expr}{pos:Pos}(a1:qK c A W Ef Γ a x)(a2:qK c A W Ef Γ (.BoolOp .And (b::rest) pos) y):qK c A W Ef Γ (.BoolOp .And (a::b::rest) pos) (.band x y):=fun env U H s Q X V R F q=>by
 dsimp only[Ge]at q;refine BoolOp_and (rD (a1 env U H s _ X V R F q) fun v1 s1 x1 H1 r1 R1 N1 q1=>?_);refine yz (BC (Q:=fun t H=>qM t (wE c.Θ c.call y U H Q X) (Q x1 H)) R1 r1 q1) fun t s2 H2 R2 N2 q2=>?_;induction t using aX with
 |true=>exact aB (a2 env U H2 s2 _ X V R2 ((F.pI N1).pI N2) q2) (fun J J z=>(z.after N2).after N1) fun J J=>C.en (N1.trans N2).up
 |false=>exact((p6.here R2 (r1.mono N2.qb) q2).after N2).after N1
theorem NF(C:c.Ok A W Ef){Γ:Cx}{a b:Expr}{rest:List Expr}{pos:Pos}(a1:qK c A W Ef Γ a x)(a2:qK c A W Ef Γ (.BoolOp .Or (b::rest) pos) y):qK c A W Ef Γ (.BoolOp .Or (a::b::rest) pos) (.bor x y):=fun env U H s Q X V R F q=>by
 dsimp only[Jz]at q;refine BoolOp_or (rD (a1 env U H s _ X V R F q) fun v1 s1 x1 H1 r1 R1 N1 q1=>?_);refine yz (BC (Q:=fun t H=>qM t (Q x1 H) (wE c.Θ c.call y U H Q X)) R1 r1 q1) fun t s2 H2 R2 N2 q2=>?_;induction t using aX with
 |false=>exact aB (a2 env U H2 s2 _ X V R2 ((F.pI N1).pI N2) q2) (fun J J z=>(z.after N2).after N1) fun J J=>C.en (N1.trans N2).up
 |true=>exact((p6.here R2 (r1.mono N2.qb) q2).after N2).after N1
theorem J3(C:c.Ok A W Ef){Γ:Cx}{t a b:Expr}{pos:Pos}{z x y:X}(a0:yV c A W Ef Γ t z)(a1:qK c A W Ef Γ a x)(a2:qK c A W Ef Γ b y):qK c A W Ef Γ (.IfExp t a b pos) (.ite z x y):=fun env U H s Q X V R F q=>by
 dsimp only[JA]at q;refine wpAny_IfExp (yz (a0 env U H s _ X V R F q) fun t s1 H1 R1 N1 q1=>?_);induction t using aX with
 |true=>exact aB (a1 env U H1 s1 _ X V R1 (F.pI N1) q1) (fun J J z=>z.after N1) fun J J=>C.en N1.up
 |false=>exact aB (a2 env U H1 s1 _ X V R1 (F.pI N1) q1) (fun J J z=>z.after N1) fun J J=>C.en N1.up
theorem vt.v(R:Rel P B H s.heap)(k:vt s (qm fun t=>Q (.bool t) H) r s'):p6 P B H s Q r s':=by obtain⟨b,p,t,wc⟩:=k;obtain rfl:=wc.1;obtain rfl:=wc.2.2.2;exact p6.tok R (yC.mpr rfl) (BA wc.2.1 wc.2.2.1)
theorem J4{Γ:Cx}{l r:Expr}{o:nO}{b:Cm}(C:c.Ok A W Ef)(h:NC o=some b)(m:kP o r=false)(a1:qK c A W Ef Γ l x)(a2:qK c A W Ef Γ r y):qK c A W Ef Γ (.Compare l [o] [r] pos) (.cmp b x y):=fun env U H s Q X V R F q=>by obtain rfl:=xM h;dsimp only[JB]at q;refine wpAny_Compare1 (rD (a1 env U H s _ X V R F q) fun v1 s1 x1 H1 r1 R1 N1 q1=>tI (fun J J=>C.en N1.up) (a2 env U H1 s1 _ X V R1 (F.pI N1) q1) fun v2 s2 x2 H2 r2 R2 N2 q2=>?_) m;exact aB (xF R2 C.sm C.hu (r1.mono N2.qb) r2 q2) (fun J J z=>((vt.v R2 z).after N2).after N1) fun J J z=>z
theorem HK{Γ:Cx}{o:Expr}{x:PySem.Str}{k:Nat}(C:c.Ok A W Ef)(h:uY x=some k)(hb:∀env,i7 o x env (fE o env)=fE o env)(a1:qK c A W Ef Γ o y):qK c A W Ef Γ (.Attribute o x pos) (.attr y k):=fun env U H s Q X V R F q=>by obtain⟨hk,rfl⟩:=vW h;dsimp only[Gg]at q;rw[arm_eval_Attribute,hb];refine af (rD (a1 env U H s _ X V R F q) fun v1 s1 x1 H1 r1 R1 N1 q1=>af (dh (af (cC ?_))));refine aB (Gu hk C.tb C.kb R1 r1 q1) (fun r s2 z=>?_) fun J J z=>z;exact af (wpAny_letTemporaryGo (az (z.after N1)))
theorem J5(C:c.Ok A W Ef){Γ:Cx}{o i:Expr}{pos:Pos}{x y:X}(n:sZ i=true)(a1:qK c A W Ef Γ o x)(a2:qK c A W Ef Γ i y):qK c A W Ef Γ (.Subscript o i pos) (.sub x y):=fun env U H s Q X V R F q=>by dsimp only[JE]at q;refine mA (rD (a1 env U H s _ X V R F q) fun v1 s1 x1 H1 r1 R1 N1 q1=>tI (fun J J=>C.en N1.up) (a2 env U H1 s1 _ X V R1 (F.pI N1) q1) fun v2 s2 x2 H2 r2 R2 N2 q2=>?_);exact aB (NA n R2 (r1.mono N2.qb) r2 q2) (fun J J z=>(z.after N2).after N1) fun J J z=>z
theorem sS(h:noStar e=true)(r:List Expr)(env:Env):fF (e::r) env=(false,fE e env)::fF r env:=by induction e using Expr.casesOn<;>first|rfl|exact b6 h
def yW(c:Cfg)(A:aU)(W:Addr->Prop)(Ef:EF)(Γ:Cx)(es:List Expr)(xs:Xs):Prop:=∀(env:Env) (U:Loc) (H:MH) (s:Shared) (Q:List V->MH->Prop) (X:QE) (pos:Pos),qG env Γ->Rel c.w.params c.B H s.heap->pU W c.B H s.heap env Γ.pl U->
 wEs c.Θ c.call xs U H Q X->aE (aD c.prog c.w) A (spliced (jr pos (fF es env))) (RH c.w.params c.B H s es.length Q) (Ef H s X) s
theorem J6:yW c A W Ef Γ [] .nil:=fun env U H s Q X pos V R F q=>by dsimp only[Nk]at q;exact spliced_nil ⟨[],H,rfl,rfl,R,Nx.refl _ _ _,q⟩
theorem GA(C:c.Ok A W Ef){Γ:Cx}{e:Expr}{r:List Expr}{x:X}{xs:Xs}(h:noStar e=true)(a1:qK c A W Ef Γ e x)(a2:yW c A W Ef Γ r xs):yW c A W Ef Γ (e::r) (.cons x xs):=fun env U H s Q X pos V R F q=>by dsimp only[CM]at q;rw[sS h];show aE _ _ (spliced ((false,fE e env)::jr pos (fF r env))) _ _ _;refine spliced_cons (rD (a1 env U H s _ X V R F q) fun v1 s1 x1 H1 r1 R1 N1 q1=>RI (fun J J=>C.en N1.up) (a2 env U H1 s1 _ X pos V R1 (F.pI N1) q1) fun v2 s2 x2 H2 r2 l2 R2 N2 q2=>?_);exact⟨x1::x2,H2,⟨v1,v2,rfl,r1.mono N2.qb,r2⟩,congrArg (· +1) l2,R2,N1.trans N2,q2⟩
theorem J7{Γ:Cx}{es:List Expr}{k:Nat}{pos:Pos}(h:es.length<=1000)(a1:yW c A W Ef Γ es xs):qK c A W Ef Γ (.Tuple es k pos) (.tup xs):=fun env U H s Q X V R F q=>by dsimp only[JH]at q;refine wpAny_Tuple (JY (a1 env U H s _ X pos V R F q) fun v1 s1 x1 H1 r1 l1 R1 N1 q1=>⟨by refine l1▸?_;refine cQ▸?_;exact Z.lb h rfl,?_⟩);have k:∀b o,s1.heap.get? b=some o->(s1.heap.push {cls:=.type "tuple",data:=.seq v1.toArray}).get? b=some o:=fun b o e=>ay _ e;exact(p6.ext (t:=s1.toks) R1 k (JR R1 (aJ _ rfl) (r1.mono (pY.of fun b o J=>k b o))) q1).after N1
theorem J8{Γ:Cx}{es:List Expr}{pos:Pos}{xs:Xs}(h:es.length<=1000)(a1:yW c A W Ef Γ es xs):qK c A W Ef Γ (.List es pos) (.lst xs):=fun env U H s Q X V R F q=>by dsimp only[JI]at q;refine wpAny_List (JY (a1 env U H s _ X pos V R F q) fun v1 s1 x1 H1 r1 l1 R1 N1 q1=>⟨by refine l1▸?_;refine cQ▸?_;exact Z.lb h rfl,?_⟩);have k:∀b o,s1.heap.get? b=some o->(s1.heap.push {cls:=.type "list",data:=.seq v1.toArray}).get? b=some o:=fun b o e=>ay _ e;exact(p6.Rp (t:=s1.toks) (n:=0) R1 (fun b o J=>k b o) (R1.glob.keeps k) (aJ _ rfl) (r1.mono (pY.of fun b o J=>k b o)) q1).after N1
theorem w9:∀{es:List Expr},es.all noStar=true->(jr pos (fF es env)).any (·.1)=false:=by
 intro es;induction es with
 |nil=>exact fun J=>rfl
 |cons e r ih=>exact fun h=>by simp only[gK,aR]at h;rw[sS h.1];refine(ih h.2).symm▸?_;rfl
theorem qO{f:ai}{es:List Expr}{xs:Xs}{g:Expr->X}(hx:xs=xK (es.map g))(C:c.Ok A W Ef)(kf:∀h,c.K.In h->∃k,(k=lE\/k=j9\/k=jc)/\Looks (aD c.prog c.w) h (nZ f) k)(ns:es.all noStar=true)(a1:yW c A W Ef Γ es xs)
  (V:qG env Γ)(R:Rel c.w.params c.B H s.heap)(F:pU W c.B H s.heap env Γ.pl U)(first:List ai)(q:wEs c.Θ c.call xs U H Q XE)
  (k:∀v s1 x H1,qv s1.heap x v->Rel c.w.params c.B H1 s1.heap->Nx X0 H s H1 s1->Q x H1->aE (aD c.prog c.w) A (PySem.call f (first++v)) K1 (Ef H s XE) s1):
  aE (aD c.prog c.w) A (callWith pos f first (jr pos (fF es env)) []) K1 (Ef H s XE) s:=by
 induction es using aH with
 |nil=>subst hx;refine lY rfl kf (evalArgs_nil3 ⟨R.MO C.kb,?_⟩);exact k [] s [] H rfl R (Nx.refl _ _ _) q
 |cons e r=>simp only[gK,aR]at ns;refine(sS ns.1 r env).symm▸?_;refine lY (by refine(w9 ns.2).symm▸?_;rfl) kf (kC ?_);have a1:=a1 env U H s Q XE pos V R F q;rw[sS ns.1 r env]at a1;exact JY a1 fun v s1 x H1 r1 J R1 N1 q1=>⟨R1.MO C.kb,k v s1 x H1 r1 R1 N1 q1⟩
theorem HL(C:c.Ok A W Ef)(h:(qX x&&Γ.kinds.lookup x==some .globalImplicit)=true)(hg:c.gl x=some (.fn f))(ns:es.all noStar=true)
  (a1:yW c A W Ef Γ es (xK (es.map g))):qK c A W Ef Γ (.Call (.Name x p) es [] pos) (.call f (xK (es.map g))):=fun env U H s Q X V R F q=>by rw[aR,beq_iff_eq]at h;dsimp only[Gh]at q;refine fG (du V.kind (by unfold Env.kindOf;refine V.names▸?_;exact h.2) (jb (by refine V.glob▸?_;exact C.main _ R.sup R.glob) (C.fn x f hg).1 ?_) (s9 h.1));refine qO (Q:=fun vs H1=>c.call f vs H1 Q X) rfl C (keeps_K (C.fn x f hg).2) ns a1 V R F [] q fun v s1 x H1 r1 R1 N1 q1=>?_;exact aB (kD (C.call f x v H1 s1 Q X R1 r1 q1)) (fun J J z=>z.after N1) fun J J=>C.en N1.up
theorem Wh{Γ:Cx}{a:Expr}{pos:Pos}{x:X}(a1:yV c A W Ef Γ a x):yV c A W Ef Γ (.UnaryOp .Not a pos) (.no x):=fun env U H s Q X V R F q=>by dsimp only[Qe]at q;exact isTrue_not (yz (a1 env U H s _ X V R F q) fun b s1 H1 R1 N1 q1=>⟨H1,R1,N1,q1⟩)
theorem Wi(C:c.Ok A W Ef){Γ:Cx}{a b:Expr}{rest:List Expr}{pos:Pos}(a1:yV c A W Ef Γ a x)(a2:yV c A W Ef Γ (.BoolOp .And (b::rest) pos) y):yV c A W Ef Γ (.BoolOp .And (a::b::rest) pos) (.band x y):=fun env U H s Q X V R F q=>by
 dsimp only[Gk]at q;refine isTrue_and (yz (a1 env U H s _ X V R F q) fun t s1 H1 R1 N1 q1=>?_);induction t using aX with
 |true=>exact aB (a2 env U H1 s1 _ X V R1 (F.pI N1) q1) (fun J J z=>z.after N1) fun J J=>C.en N1.up
 |false=>exact⟨H1,R1,N1,q1⟩
theorem af3(C:c.Ok A W Ef){Γ:Cx}{a b:Expr}{rest:List Expr}{pos:Pos}(a1:yV c A W Ef Γ a x)(a2:yV c A W Ef Γ (.BoolOp .Or (b::rest) pos) y):yV c A W Ef Γ (.BoolOp .Or (a::b::rest) pos) (.bor x y):=fun env U H s Q X V R F q=>by
 dsimp only[JK]at q;refine isTrue_or (yz (a1 env U H s _ X V R F q) fun t s1 H1 R1 N1 q1=>?_);induction t using aX with
 |false=>exact aB (a2 env U H1 s1 _ X V R1 (F.pI N1) q1) (fun J J z=>z.after N1) fun J J=>C.en N1.up
 |true=>exact⟨H1,R1,N1,q1⟩
theorem RJ{Γ:Cx}{a:Expr}{pos:Pos}{x:X}(a1:yV c A W Ef Γ a x):yV c A W Ef Γ (.BoolOp .And [a] pos) x:=fun env U H s Q X V R F q=>by
 refine isTrue_and (yz (a1 env U H s _ X V R F q) fun t s1 H1 R1 N1 q1=>?_);induction t using aX with
 |true=>exact isTrue_and_nil ⟨H1,R1,N1,q1⟩
 |false=>exact⟨H1,R1,N1,q1⟩
theorem Wj{Γ:Cx}{a:Expr}{pos:Pos}{x:X}(a1:yV c A W Ef Γ a x):yV c A W Ef Γ (.BoolOp .Or [a] pos) x:=fun env U H s Q X V R F q=>by
 refine isTrue_or (yz (a1 env U H s _ X V R F q) fun t s1 H1 R1 N1 q1=>?_);induction t using aX with
 |false=>exact isTrue_or_nil ⟨H1,R1,N1,q1⟩
 |true=>exact⟨H1,R1,N1,q1⟩
theorem Wk(C:c.Ok A W Ef){Γ:Cx}{t a b:Expr}{pos:Pos}{z x y:X}(a0:yV c A W Ef Γ t z)(a1:yV c A W Ef Γ a x)(a2:yV c A W Ef Γ b y):yV c A W Ef Γ (.IfExp t a b pos) (.ite z x y):=fun env U H s Q X V R F q=>by
 dsimp only[JL]at q;refine isTrue_IfExp (yz (a0 env U H s _ X V R F q) fun t s1 H1 R1 N1 q1=>?_);induction t using aX with
 |true=>exact aB (a1 env U H1 s1 _ X V R1 (F.pI N1) q1) (fun J J z=>z.after N1) fun J J=>C.en N1.up
 |false=>exact aB (a2 env U H1 s1 _ X V R1 (F.pI N1) q1) (fun J J z=>z.after N1) fun J J=>C.en N1.up
theorem vt.b{P:aq}{B:Bs}{H:MH}{s:Shared}{K:Bool->Prop}(k:vt s (qm K) r s'):∃b t,r=.bool b/\K b/\s'={s with toks:=t}:=by obtain⟨b,p,t,wc⟩:=k;obtain rfl:=wc.1;obtain rfl:=wc.2.2.2;exact⟨b,t,rfl,BA wc.2.1 wc.2.2.1,rfl⟩
theorem Wl{Γ:Cx}{l r:Expr}{o:nO}{b:Cm}(C:c.Ok A W Ef)(h:NC o=some b)(m:kP o r=false)(a1:qK c A W Ef Γ l x)(a2:qK c A W Ef Γ r y):yV c A W Ef Γ (.Compare l [o] [r] pos) (.cmp b x y):=fun env U H s Q X V R F q=>by
 obtain rfl:=xM h;dsimp only[JM]at q;refine wpAny_isTrue_Compare1 (rD (a1 env U H s _ X V R F q) fun v1 s1 x1 H1 r1 R1 N1 q1=>tI (fun J J=>C.en N1.up) (a2 env U H1 s1 _ X V R1 (F.pI N1) q1) fun v2 s2 x2 H2 r2 R2 N2 q2=>?_) m;refine aB (xF R2 C.sm C.hu (r1.mono N2.qb) r2 q2) (fun u s3 z=>?_) fun J J z=>z;obtain⟨b',t,Au⟩:=vt.b (P:=c.w.params) (B:=c.B) (H:=H2) z;repeat first|clear Γ|clear l|clear r|clear o|clear b|clear pos|clear x|clear y|clear C|clear h|clear m|clear a1|clear a2|clear P|clear B|clear H|clear env|clear U|clear s|clear Q|clear X|clear V|clear R|clear F|clear q|clear v1|clear s1|clear x1|clear H1|clear r1|clear R1|clear q1|clear v2|clear s2|clear x2|clear r2|clear q2|clear u|clear s3|clear z|clear b'|clear t
 obtain rfl:=Au.1;obtain rfl:=Au.2.2;exact dS ⟨H2,R2,(N1.trans N2).trans (Nx.tok _ _ _ _),Au.2.1⟩
theorem RK(C:c.Ok A W Ef)(h:NC o=some b)(h':NC o'=some b')(m:nj [o,o'] [r,r']=false)(a1:qK c A W Ef Γ l x)(a2:qK c A W Ef Γ r y)(a3:qK c A W Ef Γ r' z):
  yV c A W Ef Γ (.Compare l [o,o'] [r,r'] pos) (.uc b b' x y z):=fun env U H s Q X V R F q=>by
 obtain rfl:=xM h;obtain rfl:=xM h';dsimp only[Gm]at q;refine isTrue_chain (rD (a1 env U H s _ X V R F q) fun v1 s1 x1 H1 r1 R1 N1 q1=>test_link (tI (fun J J=>C.en N1.up) (a2 env U H1 s1 _ X V R1 (F.pI N1) q1) fun v2 s2 x2 H2 r2 R2 N2 q2=>?_)) m;refine aB (xF R2 C.sm C.hu (r1.mono N2.qb) r2 q2) (fun u s3 z=>?_) fun J J z=>z;obtain⟨t,tk,rfl,q3,rfl⟩:=vt.b (P:=c.w.params) (B:=c.B) (H:=H2) z;refine dS ?_;induction t using aX with
 |false=>exact⟨H2,R2,(N1.trans N2).trans (Nx.tok _ _ _ _),q3⟩
 |true=>refine test_last (tI (fun J J=>C.en ((N1.trans N2).trans (Nx.tok _ _ _ _)).up) (a3 env U H2 {s2 with toks:=tk} _ X V R2 (pU.pI (s':=s2) (F.pI N1) N2) q3) fun v3 s4 x3 H4 r4 R4 N4 q4=>?_);refine aB (xF R4 C.sm C.hu (r2.mono N4.qb) r4 q4) (fun u s3 z=>?_) fun J J z=>z;obtain⟨t,tk',rfl,q5,rfl⟩:=vt.b (P:=c.w.params) (B:=c.B) (H:=H4) z;exact dS ⟨H4,R4,(((N1.trans N2).trans (Nx.tok _ _ _ _)).trans N4).trans (Nx.tok _ _ _ _),q5⟩
theorem RL(C:c.Ok A W Ef)(h:NC o=some b)(h':NC o'=some b')(m:nj [o,o'] [r,r']=false)(a1:qK c A W Ef Γ l x)(a2:qK c A W Ef Γ r y)(a3:qK c A W Ef Γ r' z):
  qK c A W Ef Γ (.Compare l [o,o'] [r,r'] pos) (.uc b b' x y z):=fun env U H s Q X V R F q=>by
 obtain rfl:=xM h;obtain rfl:=xM h';dsimp only[Gf]at q;refine Compare_chain (rD (a1 env U H s _ X V R F q) fun v1 s1 x1 H1 r1 R1 N1 q1=>chain_link (tI (fun J J=>C.en N1.up) (a2 env U H1 s1 _ X V R1 (F.pI N1) q1) fun v2 s2 x2 H2 r2 R2 N2 q2=>?_)) m;refine aB (xF R2 C.sm C.hu (r1.mono N2.qb) r2 q2) (fun u s3 z=>?_) fun J J z=>z;obtain⟨t,tk,CY⟩:=vt.b (P:=c.w.params) (B:=c.B) (H:=H2) z;obtain rfl:=CY.1;obtain rfl:=CY.2.2;refine dS ?_;induction t using aX with
 |false=>exact((p6.tok R2 (yC.mpr rfl) CY.2.1).after N2).after N1
 |true=>refine chain_last (tI (fun J J=>C.en ((N1.trans N2).trans (Nx.tok _ _ _ _)).up) (a3 env U H2 {s2 with toks:=tk} _ X V R2 (pU.pI (s':=s2) (F.pI N1) N2) CY.2.1) fun v3 s4 x3 H4 r4 R4 N4 q4=>?_);exact aB (xF R4 C.sm C.hu (r2.mono N4.qb) r4 q4) (fun J J z=>(((vt.v R4 z).after N4).after (Nx.tok _ _ _ _)|>.after N2).after N1) fun J J z=>z
end
end
section
variable[Inhabited Tg]
noncomputable def EH:List T->Ts
 |[]=>.nil
 |t::r=>.cons t (EH r)
theorem J9:∀l,Ga (EH l)=l.length:=by
 intro l;induction l with
 |nil=>exact rfl
 |cons _ r pS=>exact congrArg (· +1) (pS)
noncomputable def C0:List (Option T)->Option (List T)
 |[]=>some []
 |some a::r=>(C0 r).map (a::·)
 |none::_=>none
section
variable{c:Cfg}{A:aU}{W:Addr->Prop}{Ef:EF}
theorem Gz.after{K:Loc->MH->Prop}(N:Nx W H s H1 s1)(k:Gz W P B H1 s1 env Γ K s'):Gz W P B H s env Γ K s':=
 let ⟨qp,H',a,b,c,d⟩:=k;⟨qp,H',a,N.trans b,c,d⟩
theorem Gz.ofU{K:Loc->MH->Prop}(F:pU W B H s.heap env Γ U)(k:Eo P B H s (K U) s'):Gz W P B H s env Γ K s':=
 let ⟨H',a,b,c⟩:=k;⟨U,H',a,b.up,F.pI b,c⟩
def yE(c:Cfg)(A:aU)(W:Addr->Prop)(Ef:EF)(Γ:Cx)(e:Expr)(t:T):Prop:=∀(env:Env) (U:Loc) (H:MH) (s:Shared) (x:V) (v:ai) (Q:Loc->MH->Prop) (X:QE),qG env Γ->Rel c.w.params c.B H s.heap->pU W c.B H s.heap env Γ.pl U->
 VR s.heap x v->wA c.Θ c.call t x U H Q X->aE (aD c.prog c.w) A (fv e env v) (fun J=>Gz W c.w.params c.B H s env Γ.pl Q) (Ef H s X) s
theorem Ka(h:place Γ.pl x=some i)(h2:Γ.pl[i]? =some (y,true)):yE c A W Ef Γ (.Name x pos) (.v i):=fun env U H s z v Q X V R F r q=>by obtain⟨b,e⟩:=tc h;rw[h2]at e;cases e;dsimp only[ad6]at q;exact assign_Name (w8 R F h2 r (wZ q).2)
theorem RM(C:c.Ok A W Ef)(h:uY x=some k)(a1:qK c A W Ef Γ o y):yE c A W Ef Γ (.Attribute o x pos) (.attr y k):=fun env U H s z v Q X V R F r q=>by
 have Wm:=vW h;repeat first|clear Γ|clear o|clear x|clear k|clear pos|clear y|clear h|clear v|clear Q
 obtain rfl:=Wm.2;dsimp only[Gn]at q;refine kas_attr (rD (a1 env U H s _ X V R F q) fun v1 s1 x1 H1 r1 R1 N1 q1=>?_);exact aB (Gv Wm.1 C.tb.ok C.kb R1 r1 (r.mono N1.qb) q1) (fun J J z=>(Gz.ofU (F.pI N1) z).after N1.up) fun J J z=>z
theorem Wn(C:c.Ok A W Ef)(n:sZ i=true)(a1:qK c A W Ef Γ o y)(a2:qK c A W Ef Γ i z):yE c A W Ef Γ (.Subscript o i pos) (.sub y z):=fun env U H s u v Q X V R F r q=>by dsimp only[JN]at q;refine af (cC (rD (a1 env U H s _ X V R F q) fun v1 s1 x1 H1 r1 R1 N1 q1=>?_));refine af (cC (tI (fun J J=>C.en N1.up) (a2 env U H1 s1 _ X V R1 (F.pI N1) q1) fun v2 s2 x2 H2 r2 R2 N2 q2=>?_));refine af (dh (af (cC ?_)));exact aB (Gw R2 (r1.mono N2.qb) r2 ((r.mono N1.qb).mono N2.qb) q2) (fun J J z=>wpAny_release' (((Gz.ofU ((F.pI N1).pI N2) z).after N2.up).after N1.up)) fun J J z=>z
theorem vj(h:noStar e=true)(r:List Expr)(env:Env):eH (e::r) env=(false,fv e env)::eH r env:=by induction e using Expr.casesOn<;>first|rfl|exact b6 h
def Kb(c:Cfg)(A:aU)(W:Addr->Prop)(Ef:EF)(Γ:Cx)(es:List Expr)(ts:Ts):Prop:=∀(env:Env) (U:Loc) (H:MH) (s:Shared) (xs:List V) (vs:List ai) (Q:Loc->MH->Prop) (X:QE),qG env Γ->Rel c.w.params c.B H s.heap->pU W c.B H s.heap env Γ.pl U->
 qv s.heap xs vs->Hv c.Θ c.call ts xs U H Q X->aE (aD c.prog c.w) A (i8 ((eH es env).map (·.2)) vs) (fun J=>Gz W c.w.params c.B H s env Γ.pl Q) (Ef H s X) s
theorem Kd:Kb c A W Ef Γ [] .nil:=fun env U H s xs vs Q X V R F r q=>by
 repeat first|clear Γ|clear env|clear s|clear vs|clear Q|clear X|clear V|clear r
 induction xs using aH with
 |nil=>exact az ⟨U,H,R,Nx.refl _ _ _,F,q⟩
 |cons _ _=>exact(q:False).elim
theorem NG(C:c.Ok A W Ef)(h:noStar e=true)(a1:yE c A W Ef Γ e t)(a2:Kb c A W Ef Γ r ts):Kb c A W Ef Γ (e::r) (.cons t ts):=fun env U H s xs vs Q X V R F rr q=>by
 induction xs using aH with
 |nil=>exact(q:False).elim
 |cons x xs=>obtain⟨v,vs,Au⟩:=rr;obtain rfl:=Au.1;dsimp only[CN]at q;rw[vj h];show aE _ _ (do lL vs (fv e env v);i8 ((eH r env).map (·.2)) vs) _ _ _;refine af (cC (aB (a1 env U H s x v _ X V R F Au.2.1 q) (fun J s1 z=>?_) fun J J z=>z));obtain⟨Qh,H1,R1,N1,F1,q1⟩:=z;exact aB (a2 env Qh H1 s1 xs vs _ X V R1 F1 (qv.mono N1.qb Au.2.2) q1) (fun J J z=>z.after N1) fun J J=>C.en N1
theorem AW:∀{es:List Expr},es.all noStar=true->(eH es env).findIdx? (·.1)=none/\(eH es env).length=es.length:=by
 intro es;induction es with
 |nil=>exact fun J=>⟨rfl,rfl⟩
 |cons e r ih=>exact fun h=>by simp only[gK,aR]at h;rw[vj h.1];simp[lF,(ih h.2).1,(ih h.2).2]
theorem Wo(C:c.Ok A W Ef)(h:es.all noStar=true)(hl:ts.length=es.length)(a1:Kb c A W Ef Γ es (EH ts)):yE c A W Ef Γ (.Tuple es k pos) (.tup (EH ts)):=fun env U H s x v Q X V R F r q=>by
 refine af (dh ?_);unfold unpack;refine(AW (env:=env) h).1▸?_;refine(AW (env:=env) h).2▸?_;refine af (cC ?_);have fin:∀(l:List Mine.Internal.V) (vs:List ai) (h':bp),qv s.heap l vs->j0 s.heap.objs.size s.heap h'->Hv c.Θ c.call (EH ts) l U H Q X->aE (aD c.prog c.w) A (i8 ((eH es env).map (·.2)) vs) (fun J=>Gz W c.w.params c.B H s env Γ.pl Q) (Ef H s X) {s with heap:=h'}:=by intro l vs h' rl he q;have ke:∀b o,s.heap.get? b=some o->h'.get? b=some o:=fun b o e=>he b o (cI (br e)) e;have R':=R.ext ke;have N:Nx X0 H s H {s with heap:=h'}:=Nx.qR (t:=s.toks) ((R.max X0).ext ke) (pY.of fun b o J=>ke b o);exact aB (a1 env U H {s with heap:=h'} l vs Q X V R' (F.pI N) (qv.mono N.qb rl) q) (fun J J z=>z.after N.up) fun J J=>C.en N.up
 obtain⟨l,sa,xJ⟩:=q;have hs:∀vs,qv s.heap l vs->es.length=vs.toArray.size:=fun vs rl=>by rw[aN,rl.length,xJ.1,J9,hl]
 cases sa with
 |tup=>obtain⟨a,vs,NH⟩:=qN.mp r;obtain rfl:=NH.1;exact(hs vs NH.2.2.2)▸(lP C.hh NH.2.2.1 fun h' he=>fin l vs h' NH.2.2.2 he xJ.2)
 |lst e=>obtain⟨vs,il,rl,_⟩:=pJ (R.obj _ _ e);subst r;exact(hs vs rl)▸(kun_itemsOf C.hh il fun h' he=>fin l vs h' rl he xJ.2)
theorem RN(C:c.Ok A W Ef)(ih:∀e t,g e=some t->yE c A W Ef Γ e t):∀(es:List Expr) (ts:List T),es.all noStar=true->C0 (es.map g)=some ts->ts.length=es.length/\Kb c A W Ef Γ es (EH ts):=by
 intro es;induction es with
 |nil=>exact fun ts J h=>by obtain rfl:=au h;exact⟨rfl,Kd⟩
 |cons e r pS=>
  exact fun ts hs h=>by
   simp only[gK,aR]at hs;rw[bL]at h;cases hg:g e with
   |none=>rw[hg]at h;exact Z.nS h
   |some t=>
    rw[hg]at h;obtain⟨Ke,EI⟩:=bG.mp h;repeat first|clear Γ|clear g|clear es|clear ts|clear h|clear Kd
    obtain rfl:=EI.2;exact⟨congrArg (· +1) (pS Ke hs.2 EI.1).1,NG C hs.1 (ih e t hg) (pS Ke hs.2 EI.1).2⟩
end
end
section
variable[Inhabited Tg]
noncomputable def isStar:Expr->Bool| .Starred .. =>true|_=>false
noncomputable def af4(ks:List (PySem.Str×cw))(line:Nat):Expr->Option PySem.Str
 | .Name id pos=>if ks.lookup id==some .local&&pos.line==line then some id else none
 |_=>none
def ZX{α:Type}(b:Bool)(n:α)(u f:List PySem.Str->α)(ts vs:List Expr)(ks:List (PySem.Str×cw)):α:=
 if(!(ts.length==2||ts.length==3)||vs.length !=ts.length||b)=true then n
 else if vs.any isStar=true then n
 else(fun names:List PySem.Str=>if(names.length !=ts.length||names.eraseDups.length !=names.length)=true then n
  else if vs.all (foldedForSure 8)=true then n
  else if vs.all (constantsAlone 8)=true then u names
  else f names) (ts.filterMap (af4 ks ((ts.head?.map (·.pos.line)).getD 0)))
theorem Wq{R:α->β->Prop}[Decidable c](h:R a x)(g:R b y):R (if c then a else b) (if c then x else y):=by
 by_cases z:c
 ·rw[if_pos z,if_pos z];exact h
 ·rw[if_neg z,if_neg z];exact g
theorem NI{R:α->β->Prop}(hn:R n n')(hu:∀x,R (u x) (u' x))(hf:∀x,R (f x) (f' x)):R (ZX b n u f ts vs ks) (ZX b n' u' f' ts vs ks):=
 Wq hn (Wq hn (Wq hn (Wq hn (Wq (hu _) (hf _)))))
def Kf(Γ:Cx)(ts vs:List Expr):Option (Option (List PySem.Str)):=ZX false (some none) (fun J=>none) (fun n=>some (some n)) ts vs Γ.kinds
theorem GB{Γ:Cx}(V:qG env Γ)(h:Kf Γ ts vs=some r):gL [.Tuple ts k p] (.Tuple vs k' p') env=cL r:=by
 have e1:(env.blockKind !=.function)=false:=by unfold Env.blockKind;refine V.kind.symm▸?_;rfl
 show ZX (env.blockKind !=.function) (cL none) (fun n=>do unsupported "assign.tuple-of-constant-expressions:order-of-the-stores";cL (some n)) (fun n=>cL (some n)) ts vs env.scope.names=cL r;refine e1▸?_;refine V.names▸?_;exact NI (R:=fun a (x:Sem (Option (List PySem.Str)))=>a=some r->x=cL r) (fun z=>by obtain rfl:=au z;rfl) (fun J=>Z.nS) (fun J z=>by obtain rfl:=au z;rfl) h
def FlR(h:bp):Fl->Flow->Prop
 | .next,f=>f=.next
 | .brk,f=>f=.brk
 | .cont,f=>f=.cont
 | .ret v,f=>∃u,f=.ret u/\VR h v u
inductive NJ(W:Addr->Prop)(P:aq)(B:Bs)(H:MH)(s:Shared)(env:Env)(Γ:List (PySem.Str×Bool))(K:QF)(f:Flow)(s':Shared):Prop where|mk (fl:Fl) (qp:Loc) (H':MH) (r:FlR s'.heap fl f) (R:Rel P B H' s'.heap) (N:Nx W H s H' s') (F:pU W B H' s'.heap env Γ qp) (q:K fl qp H')
theorem NJ.after{K:QF}(N:Nx W H s H1 s1)(k:NJ W P B H1 s1 env Γ K f s'):NJ W P B H s env Γ K f s':=
 let ⟨fl,qp,H',a,b,c,d,e⟩:=k;⟨fl,qp,H',a,b,N.trans c,d,e⟩
section
variable{c:Cfg}{A:aU}{W:Addr->Prop}{Ef:EF}
def Kg(c:Cfg)(A:aU)(Ef:EF)(env:Env):Prop:=∀H s X,PassesOwn (aD c.prog c.w) A env (Ef H s X)
def BD(c:Cfg)(A:aU)(W:Addr->Prop)(Ef:EF)(Γ:Cx)(st:Stmt)(x:S):Prop:=∀(env:Env) (U:Loc) (H:MH) (s:Shared) (K:QF) (X:QE),qG env Γ->Kg c A Ef env->Rel c.w.params c.B H s.heap->pU W c.B H s.heap env Γ.pl U->
 wS c.Θ c.call x U H K X->aE (aD c.prog c.w) A (exec st env) (NJ W c.w.params c.B H s env Γ.pl K) (Ef H s X) s
def Av(c:Cfg)(A:aU)(W:Addr->Prop)(Ef:EF)(Γ:Cx)(st:List Stmt)(x:Ss):Prop:=∀(env:Env) (U:Loc) (H:MH) (s:Shared) (K:QF) (X:QE),qG env Γ->Kg c A Ef env->Rel c.w.params c.B H s.heap->pU W c.B H s.heap env Γ.pl U->
 wSs c.Θ c.call x U H K X->aE (aD c.prog c.w) A (execs st env) (NJ W c.w.params c.B H s env Γ.pl K) (Ef H s X) s
theorem RO:Av c A W Ef Γ [] .nil:=fun env U H s K X V O R F q=>by dsimp only[Nt]at q;exact hV ⟨.next,U,H,rfl,R,Nx.refl _ _ _,F,q⟩
theorem NK(C:c.Ok A W Ef){st:Stmt}(a1:BD c A W Ef Γ st x)(a2:Av c A W Ef Γ r xs):Av c A W Ef Γ (st::r) (.cons x xs):=fun env U H s K X V O R F q=>by
 dsimp only[JP]at q;refine wpAny_execs_cons (aB (a1 env U H s _ X V O R F q) (fun f s1 z=>?_) fun J J z=>z);obtain⟨fl,Qh,H1,r1,R1,N1,F1,q1⟩:=z;induction fl using Fl.casesOn with
 |next=>subst r1;exact aB (a2 env Qh H1 s1 _ X V O R1 F1 q1) (fun J J z=>z.after N1) fun J J=>C.en N1
 |brk=>subst r1;exact⟨.brk,Qh,H1,rfl,R1,N1,F1,q1⟩
 |cont=>subst r1;exact⟨.cont,Qh,H1,rfl,R1,N1,F1,q1⟩
 |ret v=>obtain⟨u,rfl,r1⟩:=r1;exact⟨.ret v,Qh,H1,⟨u,rfl,r1⟩,R1,N1,F1,q1⟩
theorem RP:BD c A W Ef Γ (.Pass p) .pass:=fun env U H s K X V O R F q=>by dsimp only[Np]at q;exact wpAny_Pass ⟨.next,U,H,rfl,R,Nx.refl _ _ _,F,q⟩
theorem Ws:BD c A W Ef Γ (.Break p) .brk:=fun env U H s K X V O R F q=>by dsimp only[Ri]at q;exact wpAny_Break ⟨.brk,U,H,rfl,R,Nx.refl _ _ _,F,q⟩
theorem RQ:BD c A W Ef Γ (.Continue p) .cont:=fun env U H s K X V O R F q=>by dsimp only[Nq]at q;exact wpAny_Continue ⟨.cont,U,H,rfl,R,Nx.refl _ _ _,F,q⟩
noncomputable def xN(e:Expr):Bool:=fk 8 e.ctorIdx&&fk e.ctorIdx 10
theorem xa(h:xN e=false)(t:Option Expr)(n:Nat)(env:Env):iJ e t n env=cL false:=by induction e using Expr.casesOn<;>first|rfl|exact b6 h
theorem RT(h:xN e=false)(a1:qK c A W Ef Γ e x):BD c A W Ef Γ (.Expr e p) (.expr x):=fun env U H s K X V O R F q=>by dsimp only[Nr]at q;refine wpAny_Expr_any (rD (a1 env U H s _ X V R F q) fun v s1 y H1 r1 R1 N1 q1=>?_) (by unfold interactive;refine V.kind▸?_;rfl) (xa h _ _ _);exact⟨.next,U,H1,rfl,R1,N1.up,F.pI N1,q1⟩
theorem Wt(a1:qK c A W Ef Γ e x):BD c A W Ef Γ (.Return (some e) p) (.ret x):=fun env U H s K X V O R F q=>by dsimp only[Rj]at q;refine wpAny_Return_some (rD (a1 env U H s _ X V R F q) fun v s1 y H1 r1 R1 N1 q1=>?_);exact⟨.ret y,U,H1,⟨v,rfl,r1⟩,R1,N1.up,F.pI N1,q1⟩
theorem RU:BD c A W Ef Γ (.Return none p) (.ret (.c .none)):=fun env U H s K X V O R F q=>by exact wpAny_Return_none ⟨.ret .none,U,H,⟨_,rfl,tM.mpr rfl⟩,R,Nx.refl _ _ _,F,q⟩
theorem Wu(C:c.Ok A W Ef)(hc:∀env,qG env Γ->iJ e (some t) p.line env=cL false)(hs:∀env,qG env Γ->gL [t] e env=cL none)(ht:∀env,eH [t] env=[(false,fv t env)])(a1:qK c A W Ef Γ e x)(a2:yE c A W Ef Γ t y):
  BD c A W Ef Γ (.Assign [t] e p) (.asg y x):=fun env U H s K X V O R F q=>by dsimp only[JO]at q;refine af (dh ?_);rw[show swapsWithSole [t] e p.line env=cL false from hc env V];refine af (az ?_);refine af (rD (a1 env U H s _ X V R F q) fun v s1 z H1 r1 R1 N1 q1=>?_);refine(hs env V)▸?_;refine af (az ?_);rw[ht];show aE _ _ (do fv t env v;cL Flow.next) _ _ _;refine af (aB (a2 env U H1 s1 z v _ X V R1 (F.pI N1) r1 q1) (fun J s2 k=>?_) fun J J=>C.en N1.up);obtain⟨NL,H2,R2,N2,F2,q2⟩:=k;exact az ⟨.next,NL,H2,rfl,R2,N1.up.trans N2,F2,q2⟩
def Aw(Γ:Cx)(n:PySem.Str):Option T:=(place Γ.pl n).bind fun i=>(Γ.pl[i]?).bind fun y=>if y.2 then some (T.v i)else none
theorem NM(h:Aw Γ n=some t):∃i,t=.v i/\Γ.pl[i]? =some (n,true):=by
 obtain⟨i,hi,h⟩:=cg.mp h;obtain⟨⟨y,b⟩,hy,h⟩:=cg.mp h;obtain⟨b',e⟩:=tc hi;rw[hy]at e;cases e;induction b using aX with
 |true=>obtain rfl:=au h;exact⟨i,rfl,hy⟩
 |false=>exact Z.nS h
theorem RV(C:c.Ok A W Ef){X:QE}(V:qG env Γ):∀(ns:List PySem.Str) (is:List Nat) (l:List Mine.Internal.V) (vs:List ai) (U:Loc) (H:MH) (s:Shared) (K:Loc->MH->Prop),C0 (ns.map (Aw Γ))=some (is.map T.v)->
  l.length=ns.length->qv s.heap l vs->Rel c.w.params c.B H s.heap->pU W c.B H s.heap env Γ.pl U->K (qT is l U) H->aE (aD c.prog c.w) A (i8 (ns.map fun n=>bindName env n) vs) (fun J=>Gz W c.w.params c.B H s env Γ.pl K) (Ef H s X) s:=by
 intro ns;induction ns with
 |nil=>
  intro is l vs U H s K h hl r R F q;induction l using aH with
  |cons _ _=>exact nomatch hl
  |nil=>
   induction is using aH with
   |cons _ _=>exact nomatch h
   |nil=>exact az ⟨U,H,R,Nx.refl _ _ _,F,q⟩
 |cons n ns ih=>
  intro is l vs U H s K h hl r R F q;induction l using aH with
  |nil=>exact nomatch hl
  |cons x l=>
   obtain⟨v,vs,yX⟩:=r;obtain rfl:=yX.1;cases hg:Aw Γ n with
   |none=>exact Z.nS (hg▸bL▸h)
   |some t=>
    have h:=bL▸h;rw[hg]at h;obtain⟨ts,h1,h2⟩:=bG.mp h;repeat first|clear Γ|clear X|clear V|clear ns|clear U|clear H|clear s|clear h|clear ts
    induction is using aH with
    |nil=>exact nomatch h2
    |cons i is=>cases h2;obtain⟨j,e,hy⟩:=NM hg;cases e;refine af (m:=lL vs (bindName env n v)) (cC (wpAny_bindName (aB (w8 (K:=fun qp H'=>K (qT is l qp) H') R F hy yX.2.1 q) (fun J s1 z=>?_) fun J J z=>z)));obtain⟨Qh,H1,R1,N1,F1,q1⟩:=z;exact aB (ih is l vs Qh H1 s1 K h1 (eR hl) (yX.2.2.mono N1.qb) R1 F1 q1) (fun J J z=>z.after N1) fun J J=>C.en N1
theorem qv.reverse(r:qv h l vs):qv h l.reverse vs.reverse:=r.ind (P:=fun l vs=>qv h l.reverse vs.reverse) rfl fun a J b=>by rw[lQ,lQ];exact b.push a
theorem Wv(C:c.Ok A W Ef)(hs:Kf Γ ts vs=some (some ns))(hl:is.length=ns.length)
  (hi:C0 (ns.reverse.map (Aw Γ))=some (is.map T.v))(a1:qK c A W Ef Γ (.Tuple vs k' p') x):
  BD c A W Ef Γ (.Assign [.Tuple ts k p] (.Tuple vs k' p') p'') (.Ew is x):=fun env U H s K X V O R F q=>by
 dsimp only[Rk]at q;refine Assign_Tuple_swapped (names:=ns) (rD (a1 env U H s _ X V R F q) fun v s1 z H1 r1 R1 N1 q1=>?_) rfl (GB V hs);obtain⟨l,NN⟩:=q1;obtain rfl:=NN.1;obtain⟨a,vs,vD⟩:=qN.mp r1;repeat first|clear ts|clear k|clear k'|clear p|clear p'|clear p''|clear x|clear hs|clear a1|clear names|clear H|clear s|clear X|clear O|clear R|clear q|clear v|clear r1|clear q1|clear a
 obtain rfl:=vD.1;have:ns.length=vs.toArray.size:=by rw[aN,vD.2.2.2.length,NN.2.1,hl]
 refine this▸?_;refine lP C.hh vD.2.2.1 fun h' he=>?_;have ke:∀b o,s1.heap.get? b=some o->h'.get? b=some o:=fun b o e=>he b o (cI (br e)) e;have N:Nx X0 H1 s1 H1 {s1 with heap:=h'}:=Nx.qR (t:=s1.toks) ((R1.max X0).ext ke) (pY.of fun b o J=>ke b o);have F':pU W c.B H1 h' env Γ.pl U:=pU.pI (s':={s1 with heap:=h'}) (F.pI N1) N;refine aB (RV C V ns.reverse is l.reverse vs.reverse U H1 {s1 with heap:=h'} (fun qp H'=>K .next qp H') hi (by rw[eV,eV,NN.2.1,hl]) (qv.mono N.qb vD.2.2.2).reverse (R1.ext ke) F' NN.2.2) (fun J s2 z=>?_) fun J J=>C.en (N1.trans N).up;obtain⟨NL,H2,R2,N2,F2,q2⟩:=z;exact⟨.next,NL,H2,rfl,R2,(N1.trans N).up.trans N2,F2,q2⟩
end
end
section
variable[Inhabited Tg]
section
variable{prog:Program}{w:aP}{A:aU}{E:ai->Shared->Prop}{s:Shared}{B:Bs}{H:MH}
theorem Kh(R:Rel w.params B H s.heap)(hx:VR s.heap x u)(hy:VR s.heap y v)(q:CK H Q x y):aE (aD prog w) A (jj u v) (p6 w.params B H s Q) E s:=by
 obtain⟨o,h,e,g,q⟩:=q;obtain⟨t,rfl⟩:=pO.mp hy;obtain⟨vs,hl,r,k,ek⟩:=pJ (R.obj _ _ o);obtain⟨c,NO⟩:=r.get g;repeat first|clear x|clear y|clear u|clear v|clear Q|clear hy|clear o|clear g|clear t|clear vs|clear k|clear ek|clear c
 subst hx;rcases uJ e with⟨h1,h2,rfl⟩|⟨h1,h2,rfl⟩
 ·exact lA hl h1 (Z.Hl h rfl) (by simpa using NO.1) (p6.here R NO.2 q)
 ·exact jZ hl h1 (aN▸r.length▸h2) (Z.Nd h rfl) (by refine aN▸?_;refine r.length▸?_;simpa using NO.1) (p6.here R NO.2 q)
theorem EJ(R:Rel w.params B H s.heap)(hx:VR s.heap x u)(hy:VR s.heap y v)(q:xD H Q o x y):aE (aD prog w) A (inplaceOp (Rn o) u v) (p6 w.params B H s Q) E s:=by obtain⟨q⟩:=q;exact rC hx hy fun J J=>oK (p6.tok R (pO.mpr ⟨_,rfl⟩) q)
end
section
variable{c:Cfg}{A:aU}{W:Addr->Prop}{Ef:EF}
theorem EK(C:c.Ok A W Ef)(ho:RG o=some b)(hi:place Γ.pl x=some i)(hy:Γ.pl[i]? =some (y,true))(a1:qK c A W Ef Γ e z):
  BD c A W Ef Γ (.AugAssign (.Name x p) o e p') (.aug (.v i) b z):=fun env U H s K X V O R F q=>by
 obtain rfl:=Bz ho;obtain⟨b',e'⟩:=tc hi;have e':=hy▸e';cases e';obtain⟨q0,q⟩:=F9 q;refine wpAny_AugAssign_Name (rD (Gy (Q:=fun u H'=>u=Mine.Internal.getL U i/\H'=H) R F hy ⟨q0,rfl,rfl⟩) fun v1 s1 x1 H1 r1 R1 N1 ⟨e1,e2⟩=>?_);repeat first|clear Γ|clear x|clear e|clear o|clear b|clear p|clear p'|clear i|clear y|clear ho|clear hi|clear Q|clear e'|clear H|clear s|clear O|clear R|clear u|clear b'|clear q0
 subst e1 e2;refine tI (fun J J=>C.en N1.up) (a1 env U _ s1 _ X V R1 (F.pI N1) q) fun v2 s2 x2 H2 r2 R2 N2 q2=>?_;refine rD (EJ R2 (r1.mono N2.qb) r2 q2) fun v3 s3 x3 H3 r3 R3 N3 q3=>?_;refine aB (w8 (K:=fun qp H'=>K .next qp H') R3 (((F.pI N1).pI N2).pI N3) hy r3 (wZ q3).2) (fun J s4 z=>?_) fun J J z=>z;obtain⟨Qi,H4,R4,N4,F4,q4⟩:=z;exact⟨.next,Qi,H4,rfl,R4,((N1.trans N2).trans N3).up.trans N4,F4,q4⟩
theorem EL(C:c.Ok A W Ef)(ho:RG o=some b)(h:uY x=some k)(a0:qK c A W Ef Γ a y)(a1:qK c A W Ef Γ e z):
  BD c A W Ef Γ (.AugAssign (.Attribute a x p) o e p') (.aug (.attr y k) b z):=fun env U H s K X V O R F q=>by obtain rfl:=Bz ho;obtain⟨hk,rfl⟩:=vW h;dsimp only[CP]at q;refine wpAny_AugAssign_AttributeAny (rD (a0 env U _ s _ X V R F q) fun v1 s1 x1 H1 r1 R1 N1 q1=>?_);refine rD (Gu hk C.tb C.kb R1 r1 q1) fun v2 s2 x2 H2 r2 R2 N2 q2=>?_;refine tI (fun J J=>C.en (N1.trans N2).up) (a1 env U _ s2 _ X V R2 ((F.pI N1).pI N2) q2) fun v3 s3 x3 H3 r3 R3 N3 q3=>?_;refine rD (EJ R3 (r2.mono N3.qb) r3 q3) fun v4 s4 x4 H4 r4 R4 N4 q4=>?_;refine aB (Gv hk C.tb.ok C.kb R4 (((r1.mono N2.qb).mono N3.qb).mono N4.qb) r4 q4) (fun J s5 z=>?_) fun J J z=>z;obtain⟨H5,R5,N5,q5⟩:=z;exact⟨.next,U,H5,rfl,R5,((((N1.trans N2).trans N3).trans N4).trans N5).up,((((F.pI N1).pI N2).pI N3).pI N4).pI N5,q5⟩
theorem HM(C:c.Ok A W Ef)(ho:RG o=some b)(n:sZ j=true)(a0:qK c A W Ef Γ a y)(aj:qK c A W Ef Γ j w)(a1:qK c A W Ef Γ e z):
  BD c A W Ef Γ (.AugAssign (.Subscript a j p) o e p') (.aug (.sub y w) b z):=fun env U H s K X V O R F q=>by obtain rfl:=Bz ho;dsimp only[Ez]at q;refine wpAny_AugAssign_SubscriptAny (rD (a0 env U _ s _ X V R F q) fun v1 s1 x1 H1 r1 R1 N1 q1=>?_) (by intros;induction j using Expr.casesOn<;>first|rfl|exact b6 n);refine tI (fun J J=>C.en N1.up) (aj env U _ s1 _ X V R1 (F.pI N1) q1) fun v2 s2 x2 H2 r2 R2 N2 q2=>?_;refine rD (Kh R2 (r1.mono N2.qb) r2 q2) fun v3 s3 x3 H3 r3 R3 N3 q3=>?_;refine tI (fun J J=>C.en ((N1.trans N2).trans N3).up) (a1 env U _ s3 _ X V R3 (((F.pI N1).pI N2).pI N3) q3) fun v4 s4 x4 H4 r4 R4 N4 q4=>?_;refine rD (EJ R4 (r3.mono N4.qb) r4 q4) fun v5 s5 x5 H5 r5 R5 N5 q5=>?_;refine aB (Gw R5 ((((r1.mono N2.qb).mono N3.qb).mono N4.qb).mono N5.qb) (((r2.mono N3.qb).mono N4.qb).mono N5.qb) r5 q5) (fun J s6 z=>?_) fun J J z=>z;obtain⟨H6,R6,N6,q6⟩:=z;exact⟨.next,U,H6,rfl,R6,(((((N1.trans N2).trans N3).trans N4).trans N5).trans N6).up,(((((F.pI N1).pI N2).pI N3).pI N4).pI N5).pI N6,q6⟩
theorem af5(C:c.Ok A W Ef)(a0:yV c A W Ef Γ t x)(a1:Av c A W Ef Γ a y)(a2:Av c A W Ef Γ b z):BD c A W Ef Γ (.If t a b p) (.pT x y z):=fun env U H s K X V O R F q=>by
 dsimp only[Rl]at q;refine wpAny_If (yz (a0 env U H s _ X V R F q) fun t s1 H1 R1 N1 q1=>?_);induction t using aX with
 |true=>exact aB (a1 env U H1 s1 _ X V O R1 (F.pI N1) q1) (fun J J z=>z.after N1.up) fun J J=>C.en N1.up
 |false=>exact aB (a2 env U H1 s1 _ X V O R1 (F.pI N1) q1) (fun J J z=>z.after N1.up) fun J J=>C.en N1.up
theorem Ww(C:c.Ok A W Ef)(a0:yV c A W Ef Γ t x)(a1:Av c A W Ef Γ b y):BD c A W Ef Γ (.While t b [] p) (.F8 x y):=fun env U H s K X V O R F q=>by
 dsimp only[Rm]at q;obtain⟨n,q⟩:=q;refine wpAny_While ?_;refine codeAny_whileLoop (fun k=>Gz W c.w.params c.B H s env Γ.pl fun qp H'=>yx (fun U H Q=>wT c.Θ c.call x U H Q X) (fun U H K=>wSs c.Θ c.call y U H K X) k qp H' K) ?_ n ⟨U,H,R,Nx.refl _ _ _,F,q⟩;rintro k s' ⟨qp,H',R',N',F',q'⟩;induction k using bz with
 |zero=>exact(q':False).elim
 |succ k=>
  have es:∀{H1 s1},Nx W H s H1 s1->∀v s2,Ef H1 s1 X v s2->notedBy (aD c.prog c.w) A env (kF (aD c.prog c.w) A env (Ef H s X)) v s2:=fun N v s2 z=>O H s X v s2 (C.en N z);refine Wg (es N') (a0 env qp H' s' _ X V R' F' q') fun t s1 H1 R1 N1 q1=>?_;have U3:=N'.trans N1.up;induction t using aX with
  |false=>exact hV ⟨.next,qp,H1,rfl,R1,U3,F'.pI N1,q1⟩
  |true=>
   refine aB (a1 env qp H1 s1 _ X V O R1 (F'.pI N1) q1) (fun f s2 z=>?_) (es U3);obtain⟨fl,NL,H2,r2,R2,N2,F2,q2⟩:=z;induction fl using Fl.casesOn with
   |next=>cases r2;exact⟨k,dD k,NL,H2,R2,U3.trans N2,F2,q2⟩
   |cont=>cases r2;exact⟨k,dD k,NL,H2,R2,U3.trans N2,F2,q2⟩
   |brk=>subst r2;exact⟨.next,NL,H2,rfl,R2,U3.trans N2,F2,q2⟩
   |ret v=>obtain⟨u,rfl,r2⟩:=r2;exact⟨.ret v,NL,H2,⟨u,rfl,r2⟩,R2,U3.trans N2,F2,q2⟩
end
end
section
variable[Inhabited Tg]
def C3(h:bp)(I:Addr):Prop:=∃o,h.get? I=some o/\¬Tp o
noncomputable def isTup(e:Expr):Bool:=bQ e.ctorIdx 25
def yY(tg:Expr):Prop:=(∀it v,dy tg it v=cL ())/\isTup tg=false
structure Iter(c:Cfg)(A:aU)(l:List V)(ok:MH->Prop)(tg:Expr)(I:Addr)(At:Nat->bp->Prop):Prop where
 there:∀i h,At i h->C3 h I
 self:isTup tg=false->∀i (s:Shared) (Q:ai->Shared->Prop) (E:ai->Shared->Prop),At i s.heap->Q (.ref I) s->aE (aD c.prog c.w) A (kh (.ref I)) Q E s
 frame:∀i h h',At i h->(∀o,h.get? I=some o->h'.get? I=some o)->pY h h'->At i h'
 item:∀i x H (s:Shared) (Q:Option ai->Shared->Prop) (E:ai->Shared->Prop),l[i]? =some x->At i s.heap->Rel c.w.params c.B H s.heap->ok H->
  (∀v h' tk,VR h' x v->C3 h' I->(∀b o,b≠I->s.heap.get? b=some o->h'.get? b=some o)->
   (∀(Q':Unit->Shared->Prop) (E':ai->Shared->Prop),(∀yu,At (i+1) yu->(∀b o,b≠I->h'.get? b=some o->yu.get? b=some o)->Q' () {s with heap:=yu,toks:=tk})->aE (aD c.prog c.w) A (dy tg (.ref I) v) Q' E' {s with heap:=h',toks:=tk})->
   Q (some v) {s with heap:=h',toks:=tk})->aE (aD c.prog c.w) A (jt (.ref I)) Q E s
 done:∀H (s:Shared) (Q:Option ai->Shared->Prop) (E:ai->Shared->Prop),At l.length s.heap->Rel c.w.params c.B H s.heap->ok H->
  (∀h' tk,(∀b o,b≠I->s.heap.get? b=some o->h'.get? b=some o)->Q none {s with heap:=h',toks:=tk})->aE (aD c.prog c.w) A (jt (.ref I)) Q E s
section
variable{c:Cfg}{A:aU}{W:Addr->Prop}{Ef:EF}
def WI(W:Addr->Prop)(I:Addr):Addr->Prop:=fun b=>W b\/b=I
theorem Nx.drop(N:Nx (WI W I) H s H' s')(h:s.heap.get? I=none):Nx W H s H' s':=
 ⟨fun b o g n e q=>N.keep b o g (fun z=>z.elim n fun z=>by rw[z,h]at e;exact Z.nS e) e q,N.qb,N.gens,N.drawn,N.os⟩
theorem NP(R:Rel P B H h)(hn:¬Own H h I)(k:∀b o,b≠I->h.get? b=some o->h'.get? b=some o)(x:Own H h' b):Own H h b:=by
 rcases x with x|⟨a,C,f,ea,o',e',q⟩
 ·exact .inl x
 ·obtain⟨ob,eo⟩:=(R.obj _ _ ea).there;rw[k a ob (fun z=>hn (.inl (z▸ea▸(fun q=>by cases q)))) eo]at e';obtain rfl:=au e';exact .inr ⟨a,C,f,ea,_,eo,q⟩
structure Off(c:Cfg)(W:Addr->Prop)(H:MH)(s:Shared)(I:Addr):Prop where
 rM:¬Own H s.heap I
 nB:c.B.get I=none
 ng:I≠LL
 tp:C3 s.heap I
theorem Off.step(O:Off c W H s I)(R:Rel c.w.params c.B H s.heap)(k:∀b o,b≠I->s.heap.get? b=some o->h'.get? b=some o):
  Rel c.w.params c.B H h'/\Nx (fun b=>b=I) H s H {s with heap:=h',toks:=tk}/\¬Own H h' I:=by obtain⟨o,xb⟩:=O.tp;exact⟨R.but O.rM O.nB O.ng (fun o' e'=>by rw[xb.1]at e';obtain rfl:=au e';exact xb.2) k,Nx.but R O.rM O.ng (fun o' e'=>by rw[xb.1]at e';obtain rfl:=au e';exact xb.2) k rfl,fun z=>O.rM (NP R O.rM k z)⟩
def C4(c:Cfg)(t:T)(b:Ss)(XE:QE)(x:Mine.Internal.V)(U:Loc)(H:MH)(K:QF):Prop:=wA c.Θ c.call t x U H (fun qp H'=>wSs c.Θ c.call b qp H' K XE) XE
inductive Wx(c:Cfg)(W:Addr->Prop)(I:Addr)(H:MH)(s0:Shared)(env:Env)(Γ:List (PySem.Str×Bool))(At:Nat->bp->Prop)(l:List Mine.Internal.V)(f:List Mine.Internal.V->Loc->MH->QF->Prop)(K:QF)(k:Nat)(s':Shared):Prop where
 |mk (qp:Loc) (H':MH) (i:Nat) (e:k=l.length - i) (R:Rel c.w.params c.B H' s'.heap) (N:Nx (WI W I) H s0 H' s') (F:pU W c.B H' s'.heap env Γ qp) (O:Off c W H' s' I) (a:At i s'.heap) (hi:i<=l.length) (q:f (l.drop i) qp H' K)
theorem GC(C:c.Ok A W Ef)(IT:Iter c A l ok tg I At)(a1:yE c A W Ef Γ tg t)(a2:Av c A W Ef Γ body b)
  {K:QF}(V:qG env Γ)(O:Kg c A Ef env)(R:Rel c.w.params c.B H s.heap)(F0:pU W c.B H s0.heap env Γ.pl U)(F:pU W c.B H s.heap env Γ.pl U)(hI:s0.heap.get? I=none)(hO:Off c W H s I)(N0:Nx (WI W I) H s0 H s)(h0:At 0 s.heap)
  (q:rY (C4 c t b XE) ok l U H K):
  eB (aD c.prog c.w) A (.forLoop tg (.ref I) body [] env) (fun r s'=>match r with| .ok f=>NJ W c.w.params c.B H s0 env Γ.pl K f s'| .error e=>kF (aD c.prog c.w) A env (Ef H s0 XE) e s') s:=by
 have fI:∀b,(b=env.locals\/∃x,env.cells.lookup x=some b)->¬b=I:=fun b hb z=>by obtain⟨o,e⟩:=(F0.own b hb).1;rw[z,hI]at e;exact Z.nS e
 have nW:¬W I:=fun z=>fI I (F0.wx I z) rfl;have es:∀{H1 s1},Nx (WI W I) H s0 H1 s1->∀v s2,Ef H1 s1 XE v s2->notedBy (aD c.prog c.w) A env (kF (aD c.prog c.w) A env (Ef H s0 XE)) v s2:=fun N v s2 z=>O H s0 XE v s2 (C.en (N.drop hI) z);have wk:∀{H1 s1 H2 s2},Nx (fun b=>b=I) H1 s1 H2 s2->Nx (WI W I) H1 s1 H2 s2:=fun N=>N.weak fun J z=>.inr z;have wW:∀{H1 s1 H2 s2},Nx W H1 s1 H2 s2->Nx (WI W I) H1 s1 H2 s2:=fun N=>N.weak fun J z=>.inl z;refine kX (Wx c W I H s0 env Γ.pl At l (rY (C4 c t b XE) ok) K) ?_ (l.length) ⟨U,H,0,rfl,R,N0,F,hO,h0,bW _,q⟩;rintro k s' ⟨qp,H',i,rfl,R',N',F',O',at',hi,q'⟩;by_cases yZ:i<l.length
 ·have q':=(dK yZ)▸q';have Wy:=q'.1;have q':=q'.2;refine IT.item i l[i] H' s' _ _ (bc yZ) at' R' Wy fun v h' tk rv Wz k' go=>?_;have Ax:=O'.step (tk:=tk) R' k';have F1:pU W c.B H' h' env Γ.pl qp:=F'.next (s':={s' with heap:=h',toks:=tk}) fI Ax.2.1;refine go _ _ fun yu C5 WA=>?_;have O1:Off c W H' {s' with heap:=h',toks:=tk} I:=⟨Ax.2.2,O'.nB,O'.ng,Wz⟩;have uw:=O1.step (tk:=tk) Ax.1 WA;have F2:pU W c.B H' yu env Γ.pl qp:=pU.next (s:={s' with heap:=h',toks:=tk}) (s':={s' with heap:=yu,toks:=tk}) F1 fI uw.2.1;have Na:=(N'.trans (wk Ax.2.1)).trans (wk uw.2.1);refine aB (a1 env qp H' {s' with heap:=yu,toks:=tk} l[i] v _ XE V uw.1 F2 (rv.mono uw.2.1.qb) q') (fun J s3 z=>?_) (es Na);obtain⟨U4,H3,R3,N3,F3,q3⟩:=z;refine aB (a2 env U4 H3 s3 _ XE V O R3 F3 q3) (fun f s4 z=>?_) (es (Na.trans (wW N3)));obtain⟨fl,Qi,H4,r4,R4,N4,F4,q4⟩:=z;have Nb:=(Na.trans (wW N3)).trans (wW N4);obtain⟨oI,eI,nI⟩:=IT.there _ _ C5;have kI:∀o,yu.get? I=some o->s4.heap.get? I=some o/\¬Own H4 s4.heap I:=fun o e=>(N3.trans N4).keep I o O'.ng nW e uw.2.2;have fin:rY (C4 c t b XE) ok (l.drop (i+1)) Qi H4 K->∃m,m<l.length - i/\Wx c W I H s0 env Γ.pl At l (rY (C4 c t b XE) ok) K m s4:=fun q=>⟨l.length - (i+1),(Z.sb yZ),Qi,H4,i+1,rfl,R4,Nb,F4,⟨(kI _ eI).2,O'.nB,O'.ng,oI,(kI _ eI).1,nI⟩,IT.frame (i+1) _ _ C5 (fun o e=>(kI o e).1) (N3.trans N4).qb,yZ,q⟩;induction fl using Fl.casesOn with
  |next=>subst r4;exact fin q4
  |cont=>subst r4;exact fin q4
  |brk=>subst r4;exact⟨.next,Qi,H4,rfl,R4,Nb.drop hI,F4,q4⟩
  |ret v=>obtain⟨u,rfl,r4⟩:=r4;exact⟨.ret v,Qi,H4,⟨u,rfl,r4⟩,R4,Nb.drop hI,F4,q4⟩
 ·obtain rfl:i=l.length:=(Z.ctn hi yZ);have q':=ju▸q';refine IT.done H' s' _ _ at' R' q'.1 fun h' tk k'=>?_;obtain⟨R1,N1,ZY⟩:=O'.step (tk:=tk) R' k';exact hV ⟨.next,qp,H',rfl,R1,(N'.trans (wk N1)).drop hI,F'.next (s':={s' with heap:=h',toks:=tk}) fI N1,q'.2⟩
end
end
section
variable[Inhabited Tg]
section
variable{c:Cfg}{A:aU}{W:Addr->Prop}{Ef:EF}
theorem BE(R:Rel P B H h)(k:∀b o,h.get? b=some o->h'.get? b=some o)(x:Own H h' b):Own H h b:=by
 rcases x with x|⟨a,C,f,ea,o',e',q⟩
 ·exact .inl x
 ·obtain⟨ob,eo⟩:=(R.obj _ _ ea).there;rw[k a ob eo]at e';obtain rfl:=au e';exact .inr ⟨a,C,f,ea,_,eo,q⟩
theorem xO(R:Rel c.w.params c.B H s.heap)(nt:¬Tp o):s.heap.get? s.heap.objs.size=none/\Rel c.w.params c.B H (s.heap.push o)/\Nx X0 H s H {s with heap:=s.heap.push o}/\(¬o.isFreed->Off c W H {s with heap:=s.heap.push o} s.heap.objs.size):=by
 have k:∀b x,s.heap.get? b=some x->(s.heap.push o).get? b=some x:=fun b x e=>ay _ e;have f:s.heap.get? s.heap.objs.size=none:=dO (aF _);refine⟨f,R.ext k,Nx.qR (t:=s.toks) ((R.max X0).ext k) (pY.of fun b x J=>k b x),fun hf=>⟨fun x=>absurd (R.Jp (BE R k x)) (eW _),?_,fun z=>?_,⟨o,aJ _ (by simpa using hf),nt⟩⟩⟩
 ·cases e:c.B.get s.heap.objs.size with
  |none=>rfl
  |some x=>rw[(R.base _ _ e).1]at f;exact nomatch f
 ·have:=R.glob.lt;rw[<-z]at this;exact eW _ this
theorem qq(e:o.cls=.type n)(h1:n≠"tuple")(h2:n≠"range"):¬Tp o:=fun t=>by
 rcases t.1 with t|t<;>have t:=e▸t
 ·exact h1 (mO t)
 ·exact h2 (mO t)
theorem xP(t:C3 h I)(k:∀b o,b≠I->h.get? b=some o->h'.get? b=some o):pY h h':=by obtain⟨o,CZ⟩:=t;exact pY.but k fun o' e'=>by rw[CZ.1]at e';obtain rfl:=au e';exact CZ.2
theorem NQ(hh:A.handled=none)(na:a≠I)(tg:Expr):Iter c A l (fun H'=>H' a=some (.list l)) tg I (fun i h=>h.IsListIter I a i) where
 there:=fun i h=>c6 fun o z=>⟨z.1,qq z.2.1 ⋯ ⋯⟩
 self:=fun J i s Q E h q=>wpAny_pyIter_listiter h q
 frame:=fun i h h' x e J=>x.at e
 item:=fun i x H s Q E hx at' R ok k=>by
  obtain⟨vs,il,rl,_⟩:=pJ (R.obj _ _ ok)
  obtain⟨v,ux⟩:=rl.get hx
  refine wpAny_pyNext_list_item at' il (x:=v) (by simpa using ux.1) fun h' hit sb=>?_
  refine k v h' s.toks (ux.2.mono (xP (at'.imp fun o z=>⟨z.1,qq z.2.1 ⋯ ⋯⟩) (fun b o hb e=>(sb.2 b hb).trans e))) (hit.imp fun o z=>⟨z.1,qq z.2.1 ⋯ ⋯⟩) (fun b o hb e=>(sb.2 b hb).trans e) fun Q' E' k2=>?_
  exact letGo_listiter (s':={s with heap:=h'}) hit (k2 h' hit fun J J J e=>e)
 done:=fun H s Q E at' R ok k=>by
  obtain⟨vs,il,rl,_⟩:=pJ (R.obj _ _ ok)
  exact wpAny_pyNext_list_end hh at' il (by simp[rl.length]) fun h' he=>k h' s.toks fun b o hb e=>he b o hb e
theorem RW(hh:A.handled=none)(na:a≠I)(g:a≠LL)(tg:Expr):Iter c A l (fun J=>True) tg I (fun i h=>h.IsTupleIter I a i/\gJ h a vs.toArray/\qv h l vs) where
 there:=fun i h z=>z.1.imp fun o z=>⟨z.1,qq z.2.1 ⋯ ⋯⟩
 self:=fun J i s Q E h q=>wpAny_pyIter_tupleiter h.1 q
 frame:=fun i h h' x e st=>⟨x.1.imp fun o z=>⟨e o z.1,z.2⟩,st.tup g x.2.1,qv.mono st x.2.2⟩
 item:=fun i x H s Q E hx at' R ok k=>by
  have a1:=at'.1
  have a2:=at'.2.1
  have rl:=at'.2.2
  obtain⟨v,ux⟩:=rl.get hx
  refine wpAny_pyNext_tuple_item a1 a2 (x:=v) (by simpa using ux.1) fun h' hit sb=>?_
  have kk:∀b o,b≠I->s.heap.get? b=some o->h'.get? b=some o:=fun b o hb e=>(sb.2 b hb).trans e
  have st:=xP (a1.imp fun o z=>⟨z.1,qq z.2.1 ⋯ ⋯⟩) kk
  refine k v h' s.toks (ux.2.mono st) (hit.imp fun o z=>⟨z.1,qq z.2.1 ⋯ ⋯⟩) kk fun Q' E' k2=>?_
  exact letGo_tupleiter (s':={s with heap:=h'}) hit (k2 h' ⟨hit,st.tup g a2,qv.mono st rl⟩ fun J J J e=>e)
 done:=fun H s Q E at' R ok k=>by
  have a1:=at'.1
  have a2:=at'.2.1
  have rl:=at'.2.2
  exact wpAny_pyNext_tuple_end hh a1 a2 (by simp[rl.length]) fun h' he=>k h' s.toks fun b o hb e=>he b o hb e
theorem xd(hv:∀a,v≠.ref a)(h:Q () s):aE (aD c.prog c.w) A (dy tg (.ref I) v) Q E s:=by
 induction tg using Expr.casesOn<;>first
  |exact az h
  |(induction v using nF<;>first
    |exact az h
    |exact absurd rfl (hv _))
theorem Ki(hh:A.handled=none)(e:l=b.toList.map fun x=>(x.toNat:Int))(tg:Expr):Iter c A (l.map .int) (fun J=>True) tg I (fun i h=>mB h I b t i) where
 there:=fun i h=>c6 fun o z=>⟨z.1,qq z.2.1 ⋯ ⋯⟩
 self:=fun J i s Q E h q=>KBw.pyIter_self h q
 frame:=fun i h h' x e J=>x.imp fun o z=>⟨e o z.1,z.2⟩
 item:=fun i x H s Q E hx at' R ok k=>by
  subst e
  simp only[bO,bG]at hx
  obtain⟨_,⟨u,hu,rfl⟩,rfl⟩:=hx
  refine KBw.next_item at' (c:=u) (by simpa using hu) fun h' hit sb=>?_
  refine k _ h' _ (pO.mpr ⟨_,rfl⟩) (hit.imp fun o z=>⟨z.1,qq z.2.1 ⋯ ⋯⟩) (fun b o hb e=>(sb.2 b hb).trans e) fun Q' E' k2=>?_
  exact xd (fun J z=>by cases z) (k2 h' hit fun J J J e=>e)
 done:=fun H s Q E at' R ok k=>by
  subst e
  exact KBw.next_end hh at' (by simp) fun h' he=>k h' s.toks fun b o hb e=>he b o hb e
theorem RX(hh:A.handled=none)(tg:Expr):Iter c A (chars x) (fun J=>True) tg I (fun i h=>h.IsStrIter I "str_ascii_iterator" x t i) where
 there:=fun i h=>c6 fun o z=>⟨z.1,qq z.2.1 ⋯ ⋯⟩
 self:=fun J i s Q E h q=>wpAny_pyIter_striter_ascii h q
 frame:=fun i h h' x e J=>x.imp fun o z=>⟨e o z.1,z.2⟩
 item:=fun i y H s Q E hx at' R ok k=>by
  simp only[chars,bO,bG]at hx
  obtain⟨u,WB⟩:=hx
  obtain rfl:=WB.2
  refine wpAny_pyNext_ascii_item at' (c:=u) (by simpa using WB.1) fun h' hit sb=>?_
  refine k _ h' _ (se.mpr ⟨_,rfl⟩) (hit.imp fun o z=>⟨z.1,qq z.2.1 ⋯ ⋯⟩) (fun b o hb e=>(sb.2 b hb).trans e) fun Q' E' k2=>?_
  exact xd (fun J z=>by cases z) (k2 h' hit fun J J J e=>e)
 done:=fun H s Q E at' R ok k=>
  wpAny_pyNext_ascii_end hh at' (by simp[chars]) fun h' he=>k h' s.toks fun b o hb e=>he b o hb e
theorem RY(hh:A.handled=none){a st:Int}(tg:Expr):Iter c A ((dn n).map fun(i:Nat)=>.int (a+(i:Int)*st)) (fun J=>True) tg I (fun i h=>lZ h I (a+(i:Int)*st) ((n:Int) - i) st) where
 there:=fun i h e=>⟨_,e,qq rfl ⋯ ⋯⟩
 self:=fun J i s Q E h q=>wpAny_pyIter_rangeiter h q
 frame:=fun i h h' x e J=>e _ x
 item:=fun i y H s Q E hx at' R ok k=>by
  simp only[bO,bG]at hx
  obtain⟨j,hj,rfl⟩:=hx
  obtain⟨yZ,hj⟩:=bK.mp hj
  rw[List.getElem_range]at hj
  subst hj
  simp only[lR]at yZ
  refine wpAny_pyNext_range_item at' (Z.o 0x11112896196862031 [] [_,_] rfl yZ) fun h' hit sb=>?_
  have kk:∀b o,b≠I->s.heap.get? b=some o->h'.get? b=some o:=fun b o hb e=>(sb.2 b hb).trans e
  have RZ:lZ h' I (a+((i+1:Nat):Int)*st) ((n:Int) - (i+1:Nat)) st:=by
   have e2:(n:Int) - (i+1:Nat)=n - i - 1:=Z.o 0x11111101139686221139168622 [] [_,_] rfl
   refine(show a+((i+1:Nat):Int)*st=a+(i:Int)*st+st by rw[Int.natCast_succ,jT,gF,dW])▸?_;refine e2▸?_;exact hit
  refine k _ h' _ (pO.mpr ⟨_,rfl⟩) ⟨_,hit,qq rfl ⋯ ⋯⟩ kk fun Q' E' k2=>?_
  exact xd (fun J z=>by cases z) (k2 h' RZ fun J J J e=>e)
 done:=fun H s Q E at' R ok k=>
  wpAny_pyNext_range_end hh at' (by simp) fun h' he=>k h' s.toks fun b o hb e=>he b o hb e
theorem NR(hh:A.handled=none){es:List (Int×Mine.Internal.V)}(tg:Expr):Iter c A (es.map fun e=>.int e.1) (fun H'=>∃tK,H' a=some (.dict tK ep)/\tK.map ar=es.map ar) tg I (fun i h=>h.IsKeyIter I a i es.length ep) where
 there:=fun i h=>c6 fun o z=>⟨z.1,qq z.2.1 ⋯ ⋯⟩
 self:=fun J i s Q E h q=>wpAny_pyIter_keyiter h q
 frame:=fun i h h' x e J=>x.at e
 item:=fun i x H s Q E hx at' R ok k=>by
  obtain⟨tK,ok,ek⟩:=ok
  obtain⟨kvs,m,r,nd⟩:=rq c.prog c.w (R.obj _ _ ok)
  have le:tK.length=es.length:=by have:=congrArg dj ek;simpa using this
  have WC:(tK.map ar)[i]? =(es.map ar)[i]? :=by rw[ek]
  simp only[bO,bG]at hx
  obtain⟨e0,he0,rfl⟩:=hx
  have hk:(kvs.map (·.1))[i]? =some e0.1:=by rw[r.keys,WC];simp[he0]
  simp only[bO,bG]at hk
  obtain⟨⟨k0,v0⟩,hkv,ZZ⟩:=hk
  simp only at ZZ
  subst ZZ
  refine wpAny_pyNext_dict_item (knd:=bD c.prog c.w) (r.length▸le▸at') m hkv fun key h' HN hit sb=>?_
  have kk:∀b o,b≠I->s.heap.get? b=some o->h'.get? b=some o:=fun b o hb e=>(sb.2 b hb).trans e
  have hit:=r.length▸hit;have hit:=le▸hit
  obtain⟨t,rfl⟩:=gy HN
  refine k _ h' _ (pO.mpr ⟨_,rfl⟩) (hit.imp fun o z=>⟨z.1,qq z.2.1 ⋯ ⋯⟩) kk fun Q' E' k2=>?_
  exact xd (fun J z=>by cases z) (k2 h' hit fun J J J e=>e)
 done:=fun H s Q E at' R ok k=>by
  obtain⟨tK,ok,ek⟩:=ok
  obtain⟨kvs,m,r,nd⟩:=rq c.prog c.w (R.obj _ _ ok)
  have le:tK.length=es.length:=by have:=congrArg dj ek;simpa using this
  exact wpAny_pyNext_dict_end (knd:=bD c.prog c.w) hh (r.length▸le▸at') m (by simp[r.length,le]) fun h' he=>k h' s.toks fun b o hb e=>he b o hb e
end
end
section
variable[Inhabited Tg]
section
variable{c:Cfg}{A:aU}{W:Addr->Prop}{Ef:EF}
inductive C6(c:Cfg)(A:aU)(W:Addr->Prop)(H:MH)(s:Shared)(Q:List Mine.Internal.V->(MH->Prop)->Prop)(it:ai)(s1:Shared):Prop where
 |mk (I:Addr) (l:List Mine.Internal.V) (ok:MH->Prop) (At:Nat->bp->Prop) (e:it=.ref I) (i:∀tg,Iter c A l ok tg I At) (a:At 0 s1.heap) (f:s.heap.get? I=none) (R:Rel c.w.params c.B H s1.heap) (N:Nx X0 H s H s1) (O:Off c W H s1 I) (k:∀b o,s.heap.get? b=some o->s1.heap.get? b=some o) (q:Q l ok)
theorem tS(R:Rel c.w.params c.B H s.heap)(e:o.cls=.type n)(h1:n≠"tuple")(h2:n≠"range")(hf:o.isFreed=false)
  (it:∀tg,Iter c A l ok tg s.heap.objs.size At)(GD:At 0 (s.heap.push o))(q:Q l ok):C6 c A W H s Q (.ref s.heap.objs.size) {s with heap:=s.heap.push o}:=by have NS:=xO (W:=W) (o:=o) R (qq e h1 h2);have b:=NS.2.1;exact⟨_,l,ok,At,rfl,it,GD,NS.1,b,NS.2.2.1,NS.2.2.2 (hf▸f5),fun b o e=>ay _ e,q⟩
theorem HO{a b st:Int}(q1:st=1\/st= -1)(q2:a.natAbs<2^60)(q3:b.natAbs<2^60):o7 a b st=true/\oC a b st=(((if st=1 then b - a else a - b).toNat:Nat):Int):=by
 rcases q1 with rfl|rfl
 ·exact⟨small_one (Z.Nd q2 rfl) (Z.Hl q2 rfl) (Z.Nd q3 rfl) (Z.Hl q3 rfl),by rw[if_pos rfl,rangeSize_one];split;exact(Z.tn (eG (b7 ‹_›))).symm;exact congrArg jm (iw (kG (bJ.mp ‹_›))).symm⟩
 ·exact⟨small_down (Z.Nd q2 rfl) (Z.Hl q2 rfl) (Z.Nd q3 rfl) (Z.Hl q3 rfl),by rw[if_neg ⋯,rangeSize_down];split;exact(Z.tn (eG (b7 ‹_›))).symm;exact congrArg jm (iw (kG (bJ.mp ‹_›))).symm⟩
theorem yF(hh:A.handled=none)(hB:c.B.get dq≠none)(R:Rel c.w.params c.B H s.heap)(hx:VR s.heap x v)(q:qr H Q x):
  aE (aD c.prog c.w) A (kh v) (C6 c A W H s Q) E s:=by
 have fr:∀{a:Addr} {o:Obj},s.heap.get? a=some o->a≠s.heap.objs.size:=fun e=>cI (br e);have ke:∀o b x,s.heap.get? b=some x->(s.heap.push o).get? b=some x:=fun o b x e=>ay _ e;induction q using qr.casesOn with
 |tup h q=>obtain⟨a,vs,xQ⟩:=qN.mp hx;obtain⟨o,eo,r0⟩:=id xQ.2.2.1;obtain rfl:=xQ.1;refine f6 xQ.2.2.1 ?_;exact tS (n:="tuple_iterator") R rfl ⋯ ⋯ rfl (fun tg=>RW hh (fr eo) xQ.2.1 tg) ⟨⟨_,aJ _ rfl,rfl,rfl⟩,⟨o,ke _ _ _ eo,r0⟩,qv.mono (pY.of fun b o J=>ke _ b o) xQ.2.2.2⟩ q
 |str h h1 q=>obtain⟨t,rfl⟩:=se.mp hx;refine wpAny_pyIter_ascii h1 ?_;exact tS (n:="str_ascii_iterator") R rfl ⋯ ⋯ rfl (fun tg=>RX hh tg) ⟨_,aJ _ rfl,rfl,rfl⟩ q
 |bytes h q=>obtain⟨b,t,rfl,e⟩:=si.mp hx;refine mf ?_;exact tS (n:="bytes_iterator") R rfl ⋯ ⋯ rfl (fun tg=>Ki hh e tg) ⟨_,aJ _ rfl,rfl,rfl⟩ q
 | @Ak a b st q1 q2 q3 q=>obtain⟨r,t,u,w,rfl,g,hr⟩:=hx;obtain⟨sm,sz⟩:=HO q1 q2 q3;refine wpAny_pyIter_range hr sm ?_;refine sz▸?_;refine tS (n:="range_iterator") R rfl ⋯ ⋯ rfl (fun tg=>RY (n:=(if st=1 then b - a else a - b).toNat) (a:=a) (st:=st) hh tg) ?_ q;show lZ _ _ (a+((0:Nat):Int)*st) _ _;refine(show a+((0:Nat):Int)*st=a by simp).symm▸?_;exact aJ _ rfl
 |lst e h q=>obtain⟨vs,il,r,n,eo⟩:=pJ (R.obj _ _ e);subst hx;refine wpAny_pyIter_list il ?_;exact tS (n:="list_iterator") R rfl ⋯ ⋯ rfl (fun tg=>NQ hh (fr eo) tg) ⟨_,aJ _ rfl,rfl,rfl⟩ q
 |uH e h q=>subst hx;obtain⟨kvs,m,r,nd⟩:=rq c.prog c.w (R.obj _ _ e);refine wpAny_pyIter_dict (knd:=bD c.prog c.w) (tN R hB e) m ?_;exact r.length▸(tS (n:="dict_keyiterator") R rfl ⋯ ⋯ rfl (fun tg=>NR hh tg) ⟨_,aJ _ rfl,rfl,rfl⟩ q)
noncomputable def sj(e:Expr):Bool:= !(bQ e.ctorIdx 7)
theorem WD(C:c.Ok A W Ef)(ns:sj e=true)(a0:qK c A W Ef Γ e x)(a1:yE c A W Ef Γ tg t)(a2:Av c A W Ef Γ b y):BD c A W Ef Γ (.For tg e b [] p) (.fr t x y):=fun env U H s K X V O R F q=>by
 dsimp only[V1]at q;refine nq (rD (a0 env U H s _ X V R F q) fun v s1 x1 H1 r1 R1 N1 q1=>?_) (by intro z;induction e using Expr.casesOn<;>first|rfl|exact b6 ns);refine aB (yF (W:=W) C.hh C.sm R1 r1 q1) (fun it s2 z=>?_) fun J J z=>z;obtain⟨I,l,ok,At,rfl,IT,GD,fI,R2,N2,O2,_,q2⟩:=z;have F1:=F.pI N1;refine fy (GC C (IT tg) a1 a2 (s0:=s1) (H:=H1) V O R2 F1 (F1.pI N2) fI O2 (N2.weak fun J z=>z.elim) GD q2) fun r s' z=>?_;induction r using fA with
 |ok f=>exact NJ.after N1.up z
 |error e=>exact aB z (fun J J z=>C.en N1.up z) fun J J z=>C.en N1.up z
end
end
section
variable[Inhabited Tg]
section
variable{prog:Program}{w:aP}{A:aU}{E:ai->Shared->Prop}{s:Shared}{B:Bs}{H:MH}
theorem tA{h:bp}{x:V}{vs:List ai}(r:qv h [x] vs):∃v,vs=[v]/\VR h x v:=by obtain⟨v,_,rfl,HP⟩:=r;obtain rfl:=HP.2;exact⟨v,rfl,HP.1⟩
theorem Ay{h:bp}{x y:V}{vs:List ai}(r:qv h [x,y] vs):∃v u,vs=[v,u]/\VR h x v/\VR h y u:=by obtain⟨v,_,rfl,r1,u,_,rfl,r2,rfl⟩:=r;exact⟨v,u,rfl,r1,r2⟩
theorem y0{x:V}{l:List V}{is:List Int}(e:tH (x::l)=some is):∃i js,x=.int i/\is=i::js/\tH l=some js:=by
 induction x using V.casesOn with
 |int i=>obtain⟨js,e,h⟩:=bG.mp e;exact⟨i,js,rfl,h.symm,e⟩
 |_=>exact Z.nS e
theorem ints_of{h:bp}{l:List V}{vs:List ai}{is:List Int}(r:qv h l vs):tH l=some is->∃xs:List (Int×Tok),vs=xs.map (fun x=>gU x.1 x.2)/\xs.map ar=is:=
 r.ind (P:=fun l vs=>∀is,tH l=some is->∃xs:List (Int×Tok),vs=xs.map (fun x=>gU x.1 x.2)/\xs.map ar=is) (fun is e=>⟨[],rfl,au e⟩) (fun r1 r2 ih is e=>by
  repeat first|clear h|clear l|clear vs|clear r|clear P|clear x|clear r2
  obtain⟨i,js,rfl,rfl,e2⟩:=y0 e
  repeat first|clear h|clear l|clear vs|clear r|clear P|clear x|clear e|clear r2|clear js
  obtain⟨t,rfl⟩:=pO.mp r1
  obtain⟨xs,rfl,rfl⟩:=ih _ e2
  exact⟨(i,t)::xs,rfl,rfl⟩) is
theorem vE(xs:List (Int×Tok)):(xs.map fun x=>gU x.1 x.2).toArray=eE xs.toArray:=by simp[eE]
theorem EM(xs:List (Int×Tok)):∀n,n<=xs.length->oe (fV xs.toArray) n=((xs.map ar).take n).sum:=by
 intro n;induction n with
 |zero=>exact fun J=>by simp[oe]
 |succ n Bw=>exact fun h=>by rw[oe,Bw (bC h),List.take_succ,List.sum_append];have:n<xs.length:=h;simp[fV,this]
theorem Kj(val:Nat->Int):∀(r:List Int) (m:Int) (k:Nat),(∀i,i<r.length->val (k+1+i)=r.getD i 0)->val (gw (fun i j=>decide (val i>val j)) k)=m->
  val (gw (fun i j=>decide (val i>val j)) (k+r.length))=tL m r:=by
 intro r;induction r with
 |nil=>exact fun m k _ h=>h
 |cons x r pS=>
  exact fun m k hv h=>by
   have h0:=hv 0 (by simp);simp only[hZ,kY]at h0;refine(show tL m (x::r)=tL (if m<x then x else m) r from rfl)▸?_;refine a8▸?_;rw[show k+(r.length+1)=(k+1)+r.length from Z.o 0x1111110911381111391817 [] [_,_] rfl];refine pS _ (k+1) (fun i hi=>?_) ?_
   ·have:=hv (i+1) (by simpa using hi);rw[show k+1+1+i=k+1+(i+1)from Z.o 0x111111011391113811911311381117 [] [_,_] rfl,this];simp
   ·simp only[gw,decide_eq_true_eq];split
    ·rename_i c;rw[h0];rw[h0,h]at c;rw[if_pos c]
    ·rename_i c;rw[h0,h]at c;rw[if_neg c];exact h
theorem Kk(val:Nat->Int):∀(r:List Int) (m:Int) (k:Nat),(∀i,i<r.length->val (k+1+i)=r.getD i 0)->val (gw (fun i j=>decide (val i<val j)) k)=m->
  val (gw (fun i j=>decide (val i<val j)) (k+r.length))=Ex m r:=by
 intro r;induction r with
 |nil=>exact fun m k _ h=>h
 |cons x r pS=>
  exact fun m k hv h=>by
   have h0:=hv 0 (by simp);simp only[hZ,kY]at h0;refine(show Ex m (x::r)=Ex (if x<m then x else m) r from rfl)▸?_;refine a8▸?_;rw[show k+(r.length+1)=(k+1)+r.length from Z.o 0x1111110911381111391817 [] [_,_] rfl];refine pS _ (k+1) (fun i hi=>?_) ?_
   ·have:=hv (i+1) (by simpa using hi);rw[show k+1+1+i=k+1+(i+1)from Z.o 0x111111011391113811911311381117 [] [_,_] rfl,this];simp
   ·simp only[gw,decide_eq_true_eq];split
    ·rename_i c;rw[h0];rw[h0,h]at c;rw[if_pos c]
    ·rename_i c;rw[h0,h]at c;rw[if_neg c];exact h
theorem y7{x:Int×Tok}{xs:List (Int×Tok)}{i:Nat}:fV (x::xs).toArray (i+1)=(xs.map ar).getD i 0:=by simp[fV,cD]
end
end
section
variable[Inhabited Tg]
section
variable{prog:Program}{w:aP}{A:aU}{E:ai->Shared->Prop}{s:Shared}{B:Bs}{H:MH}{Q:V->MH->Prop}
theorem uZ{n:Nat}(h:n<=pq):n<2^30:=bM h ⋯
theorem R0{l:List V}{v:ai}(R:Rel w.params B H s.heap)(r:VR s.heap (.tup l) v)(h:l.length<=pq)(q:Q (.int l.length) H):aE (aD prog w) A (call (.builtin "len") [v]) (p6 w.params B H s Q) E s:=by
 obtain⟨a,vs,NT⟩:=qN.mp r;repeat first|clear v|clear r|clear a
 obtain rfl:=NT.1;refine oH NT.2.2.1 (Z.o 0x1111114968620000000483962000000000000000800000000f3861 [] [_,_] rfl (uZ h) (show(vs.toArray.size:Int)=l.length by rw[aN,NT.2.2.2.length])) ?_;exact(show(vs.toArray.size:Int)=l.length by rw[aN,NT.2.2.2.length])▸(p6.tok R (pO.mpr ⟨_,rfl⟩) q)
theorem R7{l:List Int}{v:ai}(R:Rel w.params B H s.heap)(r:VR s.heap (.bytes l) v)(h:l.length<=pq)(q:Q (.int l.length) H):aE (aD prog w) A (call (.builtin "len") [v]) (p6 w.params B H s Q) E s:=by
 obtain⟨b,t,Kl⟩:=si.mp r;repeat first|clear v|clear r|clear t
 obtain rfl:=Kl.1;have e2:b.size=l.length:=by rw[Kl.2,ah];rfl
 refine len_bytes (Z.o 0x1111114987000000048396200000000001b385 [] [_,_] rfl (uZ h) e2) ?_;exact e2▸(p6.tok R (pO.mpr ⟨_,rfl⟩) q)
theorem R8{a:Addr}{l:List V}{v:ai}(R:Rel w.params B H s.heap)(r:VR s.heap (.ref a) v)(o:H a=some (.list l))(h:l.length<=pq)(q:Q (.int l.length) H):aE (aD prog w) A (call (.builtin "len") [v]) (p6 w.params B H s Q) E s:=by subst r;obtain⟨vs,il,rl,_⟩:=pJ (R.obj _ _ o);refine oM il (Z.o 0x1111114968620000000483962000000000000000800000000f3861 [] [_,_] rfl (uZ h) (show(vs.toArray.size:Int)=l.length by rw[aN,rl.length])) ?_;exact(show(vs.toArray.size:Int)=l.length by rw[aN,rl.length])▸(p6.tok R (pO.mpr ⟨_,rfl⟩) q)
theorem R9{a:Addr}{es:List (Int×V)}{ep:Nat}{v:ai}(hB:B.get dq≠none)(R:Rel w.params B H s.heap)(r:VR s.heap (.ref a) v)(o:H a=some (.dict es ep))(h:es.length<=16384)(q:Q (.int es.length) H):aE (aD prog w) A (call (.builtin "len") [v]) (p6 w.params B H s Q) E s:=by subst r;obtain⟨kvs,C7⟩:=rq prog w (R.obj _ _ o);refine call_len_dict (knd:=bD prog w) (tN R hB o) C7.1.dictOf (C7.2.1.length▸(Z.ci1 h rfl)) ?_;exact C7.2.1.length▸(p6.tok R (pO.mpr ⟨_,rfl⟩) q)
theorem WE{i:Int}{v:ai}(R:Rel w.params B H s.heap)(r:VR s.heap (.int i) v)(q:Q (.int i.natAbs) H):aE (aD prog w) A (call (.builtin "abs") [v]) (p6 w.params B H s Q) E s:=by obtain⟨t,rfl⟩:=pO.mp r;refine call_abs_int fun u tk=>?_;exact(show(if i<0 then -i else i)=(i.natAbs:Int) by split;exact(fM (b7 ‹_›)).symm;exact(gY (bJ.mp ‹_›)).symm)▸(p6.tok R (pO.mpr ⟨_,rfl⟩) q)
theorem WG{x:PySem.Str}{c:Nat}{v:ai}(R:Rel w.params B H s.heap)(r:VR s.heap (.str x) v)(e:x.cps.toList=[c])(q:Q (.int c) H):aE (aD prog w) A (call (.builtin "ord") [v]) (p6 w.params B H s Q) E s:=by obtain⟨t,rfl⟩:=se.mp r;have e2:x.cps= #[c]:=congrArg c9 e;refine ord_of_one (by unfold PySem.Str.length;refine e2▸?_;rfl) ?_;exact e2▸(p6.tok R (pO.mpr ⟨_,rfl⟩) q)
theorem vF{h':bp}{t:Nat}{x:V}{v:ai}(R:Rel w.params B H s.heap)(k:∀b o,s.heap.get? b=some o->h'.get? b=some o)(r:VR h' x v)(q:Q x H):p6 w.params B H s Q v {s with heap:=h',toks:=t}:=p6.ext R k r q
theorem WH{a:Addr}{l:List V}{is:List Int}{v:ai}(hh:A.handled=none)(R:Rel w.params B H s.heap)(r:VR s.heap (.ref a) v)(o:H a=some (.list l))(ei:tH l=some is)(q:Q (.int is.sum) H):aE (aD prog w) A (call (.builtin "sum") [v]) (p6 w.params B H s Q) E s:=by subst r;obtain⟨vs,il,rl,_⟩:=pJ (R.obj _ _ o);obtain⟨xs,rfl,rfl⟩:=ints_of rl ei;rw[vE]at il;refine sum_intListG hh il fun h' tk t' k=>?_;rw[show oe (fV xs.toArray) xs.toArray.size=(xs.map ar).sum by rw[aN,EM xs _ (aF _),d6 (by rw[ah];exact aF _)]];exact vF R k (pO.mpr ⟨_,rfl⟩) q
theorem GF{y:Int×Tok}{ys:List (Int×Tok)}{m:Int}{r:List Int}{v:ai}(h2:(y::ys).map ar=m::r)
  (hv:(eE (y::ys).toArray)[gw (fun i j=>decide (fV (y::ys).toArray i>fV (y::ys).toArray j)) ((y::ys).toArray.size - 1)]? =some v):∃t,v=.int (tL m r) t:=by
 obtain⟨t,rfl⟩:=j1 hv;simp only[bL,jK]at h2;obtain⟨h3,h4⟩:=h2;refine⟨t,?_⟩;have:=Kj (fV (y::ys).toArray) r m 0 (fun i hi=>by rw[cJ,bk,y7,h4]) (by simp[gw,fV,h3]);rw[<-this];congr 2;have:r.length=ys.length:=by refine h4▸?_;simp
 simp[this]
theorem Sa{a:Addr}{l:List V}{m:Int}{rest:List Int}{v:ai}(hh:A.handled=none)(R:Rel w.params B H s.heap)(r:VR s.heap (.ref a) v)(o:H a=some (.list l))(ei:tH l=some (m::rest))(q:Q (.int (tL m rest)) H):aE (aD prog w) A (call (.builtin "max") [v]) (p6 w.params B H s Q) E s:=by
 subst r;obtain⟨vs,il,rl,_⟩:=pJ (R.obj _ _ o);obtain⟨xs,rfl,h2⟩:=ints_of rl ei;rw[vE]at il;repeat first|clear a|clear l|clear m|clear rest|clear r|clear o|clear ei|clear vs|clear rl
 induction xs using aH with
 |nil=>cases h2
 |cons y ys=>refine max_intList hh il (cH _) fun v h' tk hv k=>?_;obtain⟨t,rfl⟩:=GF h2 hv;exact vF R k (pO.mpr ⟨_,rfl⟩) q
theorem Sb{i j:Int}{v u:ai}(hh:A.handled=none)(R:Rel w.params B H s.heap)(r:VR s.heap (.int i) v)(r2:VR s.heap (.int j) u)(q:Q (.int (tL i [j])) H):aE (aD prog w) A (call (.builtin "max") [v,u]) (p6 w.params B H s Q) E s:=by
 obtain⟨t,rfl⟩:=pO.mp r;obtain⟨t',rfl⟩:=pO.mp r2;refine max_two_ints hh fun h' tk k=>vF R k (x:=.int (tL i [j])) (pO.mpr ?_) q;show∃t,(if i<j then _ else _)=gU (if i<j then j else i) t;split
 ·exact⟨_,rfl⟩
 ·exact⟨_,rfl⟩
end
end
section
variable[Inhabited Tg]
section
variable{prog:Program}{w:aP}{A:aU}{E:ai->Shared->Prop}{s:Shared}{B:Bs}{H:MH}{Q:V->MH->Prop}
theorem HQ(a b c d:ai):ki "max" ⟨[a,b,c,d],[]⟩:=by unfold ki;kernel_rfl
theorem Km{a b c d:Int}{t u x y:Tok}{Q:ai->Shared->Prop}(hh:A.handled=none)
  (h:∀h' tk t',(∀d o,s.heap.get? d=some o->h'.get? d=some o)->Q (.int (tL a [b,c,d]) t') {s with heap:=h',toks:=tk}):
  aE (aD prog w) A (call (.builtin "max") [.int a t,.int b u,.int c x,.int d y]) Q E s:=by
 refine call_function_tree F.kind_max F.plain_max F.entry_max (HQ _ _ _ _) ?_;refine af (cR (show nv "max" ["key","default"] 0 ⟨[],[]⟩=cL [none,none]from rfl) ?_);refine af (cN ?_);have hT:(s.heap.push {cls:=.type "tuple",data:=.seq #[.int a t,.int b u,.int c x,.int d y]}).IsTuple s.heap.objs.size (eE [(a,t),(b,u),(c,x),(d,y)].toArray):=⟨_,aJ _ rfl,rfl,0,by simp[eE]⟩;refine af (f6 hT ?_);have hsz:(s.heap.push {cls:=.type "tuple",data:=.seq #[.int a t,.int b u,.int c x,.int d y]}).objs.size=s.heap.objs.size+1:=b9 ..;refine af (cN ?_);refine(show(toString "max"++toString ".loop":String)="max.loop" by decide)▸?_;refine hsz▸?_;refine az ⟨kQ F.plain_max_loop _,codeAny_max_loop_first (ma (prog:=prog) (w:=w) (A:=A.in1) hh (s.heap.objs.size+1) s.heap.objs.size (cI (dD _)) (eE [(a,t),(b,u),(c,x),(d,y)].toArray)) _ (CmpOf.ints_gt (fV [(a,t),(b,u),(c,x),(d,y)].toArray) (fun J J=>j1)) ((s.heap.push {cls:=.type "tuple",data:=.seq #[.int a t,.int b u,.int c x,.int d y]}).push {cls:=.type "tuple_iterator",data:=.fields #[.ref s.heap.objs.size,.int 0 0]}).objs.size ?_ (by simp[eE]) ((ma (prog:=prog) (w:=w) (A:=A.in1) hh (s.heap.objs.size+1) s.heap.objs.size (cI (dD _)) (eE [(a,t),(b,u),(c,x),(d,y)].toArray)).frame 0 _ _ (⟨⟨_,by rw[<-hsz];exact aJ _ rfl,rfl,rfl⟩,hT.push _⟩:Heap.IsTupleIter ((s.heap.push {cls:=.type "tuple",data:=.seq #[.int a t,.int b u,.int c x,.int d y]}).push {cls:=.type "tuple_iterator",data:=.fields #[.ref s.heap.objs.size,.int 0 0]}) _ _ _/\_) fun b J o e=>ay _ e) (aJ _ rfl) fun v h' tk hP hk=>?_⟩
 ·rw[b9,hsz];simp only[aA,List.not_mem_nil,or_false,not_or];exact⟨f7 (dD _),f7 (dU (dD _))⟩
 ·have ek:∀e o,s.heap.get? e=some o->h'.get? e=some o:=fun e o z=>by
   refine hk e o ?_ ?_ (ay _ (ay _ (ay _ z)))
   ·intro hm;have:=aI.mp hm;exact absurd (br z) (by rw[this];exact b8.mpr (bA _))
   ·rw[b9,hsz];exact cI (f9 (br z) (aC _ 2))
  obtain⟨t',rfl⟩:=GF (y:=(a,t)) (ys:=[(b,u),(c,x),(d,y)]) (m:=a) (r:=[b,c,d]) rfl (by simpa[eE]using hP);exact h h' tk t' ek
end
end
section
variable[Inhabited Tg]
section
variable{prog:Program}{w:aP}{A:aU}{E:ai->Shared->Prop}{s:Shared}{B:Bs}{H:MH}{Q:V->MH->Prop}
theorem tU{h:bp}{a:Addr}(g:a≠LL)(k:∀q∈CJ h,q.1<a):h.get? a=none:=by
 cases e:h.get? a with
 |none=>rfl
 |some o=>exact absurd (k _ (yO e g)) (eW _)
theorem Kn{y:Int×Tok}{ys:List (Int×Tok)}{m:Int}{r:List Int}{v:ai}(h2:(y::ys).map ar=m::r)
  (hv:(eE (y::ys).toArray)[gw (fun i j=>decide (fV (y::ys).toArray i<fV (y::ys).toArray j)) ((y::ys).toArray.size - 1)]? =some v):∃t,v=.int (Ex m r) t:=by
 obtain⟨t,rfl⟩:=j1 hv;simp only[bL,jK]at h2;obtain⟨h3,h4⟩:=h2;refine⟨t,?_⟩;have:=Kk (fV (y::ys).toArray) r m 0 (fun i hi=>by rw[cJ,bk,y7,h4]) (by simp[gw,fV,h3]);rw[<-this];congr 2;have:r.length=ys.length:=by refine h4▸?_;simp
 simp[this]
theorem WJ{l:List V}{m:Int}{rest:List Int}{v:ai}(hh:A.handled=none)(R:Rel w.params B H s.heap)(r:VR s.heap (.tup l) v)(ei:tH l=some (m::rest))(q:Q (.int (Ex m rest)) H):aE (aD prog w) A (call (.builtin "min") [v]) (p6 w.params B H s Q) E s:=by
 obtain⟨a,vs,rfl,g,ht,rl⟩:=qN.mp r;obtain⟨xs,rfl,h2⟩:=ints_of rl ei;rw[vE]at ht;repeat first|clear l|clear m|clear rest|clear r|clear ei|clear vs|clear g|clear rl
 induction xs using aH with
 |nil=>exact nomatch h2
 |cons y ys=>
  obtain⟨ob,NU⟩:=id ht;refine call_min_walk (f6 ht ?_);refine⟨_,_,_,_,_,_,_,rfl,ma (A:=A.in1) hh _ a (cI (br NU.1)) (eE (y::ys).toArray),⟨⟨_,aJ _ rfl,rfl,rfl⟩,ht.push _⟩,fun b hb=>?_,by simp[eE],CmpOf.ints_lt (fV (y::ys).toArray) (fun J J=>j1),fun v h' tk hP hk=>?_⟩
  ·show b<(s.heap.push _).objs.size;rw[b9];rcases aA.mp hb with rfl|hb
   ·exact dD _
   ·refine(aI.mp hb)▸?_;exact dU (br NU.1)
  ·obtain⟨t,rfl⟩:=Kn h2 (by simpa[eE]using hP);refine vF R (fun b o e=>hk b o (fun hm=>?_) (ay _ e)) (pO.mpr ⟨_,rfl⟩) q;exact absurd (br e) ((aI.mp hm)▸(eW _))
theorem vG{l:List V}{vs:List ai}(R:Rel w.params B H s.heap)(D:Addr)(n:Nat)(h':bp)(rl:qv s.heap l vs)(F:Fr rh LL h' B.mg)(N:jV rh LL h' ((D,listOf vs.toArray n)::CJ s.heap))(lt:∀q∈CJ s.heap,q.1<D)(q:rj (.list l) H Q):p6 w.params B H s Q (.ref D) {s with heap:=h'}:=by exact p6.Eu (o:=.list l) (t:=s.toks) R trivial (tU (N _ (.head _)).2.1 lt) (xE R F N (fun p hp=>.tail _ hp)).1 (xE R F N (fun p hp=>.tail _ hp)).2 ⟨vs,n,(N _ (.head _)).1,rl.mono (pY.of (xE R F N (fun p hp=>.tail _ hp)).1)⟩ q
theorem tO{n:Nat}(h:n<=pq):n<=sizeLine:=cQ▸(ae h ⋯)
theorem NV{l:List V}{v:ai}(R:Rel w.params B H s.heap)(r:VR s.heap (.tup l) v)(h:l.length<=pq)(q:rj (.list l) H Q):aE (aD prog w) A (call (.type "list") [v]) (p6 w.params B H s Q) E s:=by
 obtain⟨a,vs,NT⟩:=qN.mp r;repeat first|clear l|clear v|clear r|clear a|clear vs
 obtain rfl:=NT.1;exact list_copyKT R.fr R.news NT.2.2.1 (fun D n h' F N lt=>vG R D n h' NT.2.2.2 F N lt q) (aN▸NT.2.2.2.length▸(tO h))
theorem NW{a:Addr}{l:List V}{v:ai}(R:Rel w.params B H s.heap)(r:VR s.heap (.ref a) v)(o:H a=some (.list l))(h:l.length<=pq)(q:rj (.list l) H Q):aE (aD prog w) A (call (.type "list") [v]) (p6 w.params B H s Q) E s:=by subst r;obtain⟨vs,il,rl,_⟩:=pJ (R.obj _ _ o);exact list_copyK R.fr R.news il (fun D n h' F N lt=>vG R D n h' rl F N lt q) (aN▸rl.length▸(tO h))
theorem Sd{a:Addr}{l:List V}{v:ai}(R:Rel w.params B H s.heap)(r:VR s.heap (.ref a) v)(o:H a=some (.list l))(h:l.length<=16384)(q:Q (.tup l) H):aE (aD prog w) A (call (.type "tuple") [v]) (p6 w.params B H s Q) E s:=by subst r;obtain⟨vs,il,rl,_⟩:=pJ (R.obj _ _ o);refine kde_tupleOf (zs:=vs) R.fr R.news il (aN▸rl.length▸h) rfl fun D h' F N lt=>?_;exact p6.ext3 (t:=s.toks) R (xE R F N (fun p hp=>.tail _ hp)).1 (xE R F N (fun p hp=>.tail _ hp)).2 (qN.mpr ⟨D,vs,rfl,(N _ (.head _)).2.1,⟨_,(N _ (.head _)).1,rfl,0,rfl⟩,qv.mono (pY.of (xE R F N (fun p hp=>.tail _ hp)).1) rl⟩) q
theorem Se{a:Addr}{es:List (Int×V)}{ep:Nat}{v:ai}(hB:B.get dq≠none)(R:Rel w.params B H s.heap)(r:VR s.heap (.ref a) v)(o:H a=some (.dict es ep))(h:es.length<=16384)(q:∀ep,rj (.dict es ep) H Q):aE (aD prog w) A (call (.type "dict") [v]) (p6 w.params B H s Q) E s:=by subst r;obtain⟨kvs,C7⟩:=rq prog w (R.obj _ _ o);refine kt_call_dict (knd:=bD prog w) (tN R hB o) C7.1.dictOf (C7.2.1.length▸cQ▸(ae h ⋯)) fun h' m' sb=>?_;have k:∀b o,s.heap.get? b=some o->h'.get? b=some o:=fun b o e=>(sb.2 b (cI (br e))).trans (ay _ e);obtain⟨Am,o'⟩:=yR (P:=w.params) m' (C7.2.1.mono (pY.of fun b o J=>k b o)) C7.2.2;exact p6.new (o:=.dict es Am) (t:=s.toks) R trivial (aF _) k o' (q Am)
theorem wG{h:bp}:∀{l:List V} {vs:List ai} {is:List Int},qv h l vs->tH l=some is->iA vs is
 |[],_,is,r,e=>by subst r;obtain rfl:=au e;exact .nil
 |x::l,_,is,⟨v,vs,e1,r1,r2⟩,e=>by
  obtain⟨i,js,rfl,rfl,e2⟩:=y0 e
  subst e1
  obtain⟨t,rfl⟩:=pO.mp r1
  exact .cons _ _ (wG r2 e2)
theorem BF{a b c:Int}{t u x:Tok}{tk:Nat}(R:Rel w.params B H s.heap)(q:Q (.Ak a b c) H):p6 w.params B H s Q (.ref s.heap.objs.size) {s with heap:=s.heap.push {cls:=.type "range",data:=.fields #[.int a t,.int b u,.int c x]},toks:=tk}:=
 p6.ext (x:=.Ak a b c) R (fun b o e=>ay _ e) ⟨_,t,u,x,rfl,f7 R.glob.lt,aJ _ rfl⟩ q
end
end
section
variable[Inhabited Tg]
section
variable{prog:Program}{w:aP}{A:aU}{E:ai->Shared->Prop}{s:Shared}
theorem Sf{n:Nat}{P:Nat->ai->Prop}{St:Nat->bp->Prop}(W:Walks prog w A I fp wr n P St)(m:Nat)(old:Nat->ai->Prop):
  Walks prog w A I fp wr (m+n) (fun i v=>if i<m then old i v else P (i - m) v) (fun i h=>m<=i/\St (i - m) h) where
 sub:=W.sub
 frame:=fun i h h' st k=>⟨st.1,W.frame _ _ _ st.2 k⟩
 item:=fun i s Q E hi st hQ=>W.item (i - m) s Q E (Nat.sub_lt_left_of_lt_add st.1 hi) st.2 fun v h' tk hP HR hk=>hQ v h' tk (by rw[if_neg (b8.mpr st.1)];exact hP) ⟨Z.o 0x1111298511139185 [] [_,_] rfl st.1,by rw[Nat.sub_add_comm st.1];exact HR⟩ hk
 done:=fun s Q E st hQ=>W.done s Q E (by have:=st.2;rwa[cV]at this) hQ
 self:=fun i s Q E st hQ=>W.self (i - m) s Q E st.2 hQ
theorem EN(h:Q false s):aE (aD prog w) A (iK (.bytes b t)) Q E s:=by refine af (jL (ee s b t) FB.slot_bytes_len.lookup ?_);generalize U5:("bytes.__len__":String)=id0;wp_delta;rw[show splitId id0=some ("bytes","__len__")from by subst U5;decide+kernel];subst U5;refine af (gN (T:="bytes") (b:=true) (ee s b t) (by rw[iB];kernel_rfl) ?_);refine eA (fun Ko=>absurd Ko ⋯) (fun J=>?_);refine eA (fun J=>?_) (fun Ko=>absurd (by decide+kernel) Ko);refine af (gc (ee s b t) ?_);exact az h
theorem y8{t:Tok}{acc:List ai}(hh:A.handled=none)(S:Addr)(res:ai)(hS:s.heap.get? S=some (listOf acc.toArray c))(hn:acc.length+b.size<=sizeLine)
  (hR:∀h' tk sD c',(∀b o,b≠S->s.heap.get? b=some o->h'.get? b=some o)->h'.get? S=some (listOf sD c')->ItemsOf (fun i v=>if i<acc.length then acc[i]? =some v else∃k u,b[i - acc.length]? =some k/\v=.int (k.toNat:Int) u) sD (acc.length+b.size)->R (.ok (.ret res)) {s with heap:=h',toks:=tk}):
  aE (aD prog w) A.in1 (iM (.ref S) (.bytes b t) res)
   (fun fin s'=>match fin with| .done f=>R (.ok f) s'| .again c'=>c'.quiet=true/\eB (aD prog w) A c' R s') (fun e s'=>R (.error e) s') s:=by
 have hSI:S≠s.heap.objs.size:=cI (br hS);have hSf:S∉[s.heap.objs.size]:=by simpa using hSI
 have W:=Sf (KBw.walks (prog:=prog) (w:=w) (A:=A.in1) hh s.heap.objs.size b t) acc.length (fun i v=>acc[i]? =some v);have key:∀(h:bp) (c₁ tk:Nat),mB h s.heap.objs.size b t 0->(∀b o,b≠S->s.heap.get? b=some o->h.get? b=some o)->
   h.get? S=some (listOf acc.toArray c₁)->eB (aD prog w) A (.builtin "list.extend.loop" ⟨[.ref S,.ref s.heap.objs.size,res],[]⟩) R {s with heap:=h,toks:=tk}:=by
  intro h c₁ tk HR hk Kp
  refine codeAny_extend_loopS W.toS hn S hSf res b.size acc.length _ acc.toArray c₁ (cV ..) (aC ..) ⟨aF _,by rw[gh];exact HR⟩ Kp ⟨by simp,fun j v e=>?_⟩ fun s' sD c' hm WK af6=>?_
  ·have lt:j<acc.length:=by have:=(i6.mp e).1;simpa using this
   show(if j<acc.length then _ else _);rw[if_pos lt];simpa using e
  ·rw[Moved.eq_with hm];refine hR s'.heap s'.toks sD c' (fun b o hb e=>hm.heap b o (fun Sg=>?_) (hk b o hb e)) WK ?_
   ·rcases aA.mp Sg with e'|Sg
    ·exact hb e'
    ·exact absurd (br e) ((aI.mp Sg)▸(eW _))
   ·exact af6
 refine af (gc (T:="bytes") (ee s b t) ?_);have h1:og (.ref S) (.bytes b t)=false:=rfl;refine af (mf ?_);have Kp:=ay {cls:=.type "bytes_iterator",data:=.fields #[.bytes b t,.int 0 0]} hS;refine af (cC (EN ?_));refine eA (fun Ko=>absurd Ko (by decide+kernel)) (fun J=>az ⟨kQ PySem.F.plain_extend_loop _,key _ c _ ⟨_,aJ _ rfl,rfl,rfl⟩ (fun b o J e=>ay _ e) Kp⟩)
theorem yl{b:Array UInt8}{sD:Array ai}(r:qv h l acc)(e:ls=b.toList.map fun x=>(x.toNat:Int))
  (k:ItemsOf (fun i v=>if i<acc.length then acc[i]? =some v else∃k u,b[i - acc.length]? =some k/\v=.int (k.toNat:Int) u) sD (acc.length+b.size)):∃vs,sD=c9 vs/\qv h (l++ls.map V.int) vs:=by
 obtain⟨k1,k2⟩:=k;dsimp only at k2;have e1:sD.toList=acc++sD.toList.drop acc.length:=by
  apply List.ext_getElem?;intro j;by_cases hj:j<acc.length
  ·rw[List.getElem?_append_left hj];have hj':j<sD.size:=Z.o 0x11110114a86ba1972986 [] [_,_,_,_] rfl k1 hj;have:=k2 j sD[j] (by simp[hj']);rw[if_pos hj]at this;rw[this,dH];simp[hj']
  ·rw[fO (b8.mp hj),lG];congr 1;exact(Nat.add_sub_cancel' (b8.mp hj)).symm
 refine⟨sD.toList,by simp,?_⟩;rw[e1];refine r.append ?_;have gen:∀(ds:List ai) (bs:List UInt8),ds.length=bs.length->(∀(j:Nat) (v:ai),ds[j]? =some v->∃(k:UInt8) (u:Tok),bs[j]? =some k/\v=gU (k.toNat:Int) u)->qv h ((bs.map fun x=>(x.toNat:Int)).map V.int) ds:=by
  intro ds;induction ds with
  |nil=>intro bs hl _;induction bs using aH with
   |nil=>rfl
   |cons _ _=>cases hl
  |cons d ds ih=>
   intro bs hl hk;induction bs using aH with
   |nil=>cases hl
   |cons x bs=>obtain⟨k,u,ZZ,rfl⟩:=hk 0 d rfl;cases ZZ;exact⟨_,ds,rfl,⟨u,rfl⟩,ih bs (eR hl) fun j v e=>hk (j+1) v e⟩
 rw[e];refine gen _ _ (by rw[eS,kZ (xs:=sD),k1,kZ (xs:=b),cV]) fun j v ej=>?_;rw[lG,dH]at ej;have:=k2 _ v ej;rw[if_neg (by exact Z.o 0x111089819 [] [_,_] rfl),cV]at this;obtain⟨k,u,a,b⟩:=this;exact⟨k,u,by rw[dH];exact a,b⟩
end
section
variable{prog:Program}{w:aP}{A:aU}{E:ai->Shared->Prop}{s:Shared}{B:Bs}{H:MH}{Q:V->MH->Prop}
theorem NX(hh:A.handled=none)(R:Rel w.params B H s.heap)(r:VR s.heap (.bytes l) v)(q0:l.length<=pq)(q:rj (.list (l.map .int)) H Q):aE (aD prog w) A (call (.type "list") [v]) (p6 w.params B H s Q) E s:=by
 obtain⟨b,t,rfl,e⟩:=si.mp r;have le:b.size=l.length:=by rw[e,ah];rfl
 refine mP (Q₁:=fun obj qL=>obj=.ref s.heap.objs.size/\qL={s with heap:=s.heap.push {cls:=.type "list",data:=.seq #[]}}) PySem.F.called_list (PySem.F.typeCall_list_1 _) PySem.F.entry_list_init (code_list_new _ ⟨rfl,rfl⟩) fun obj qL Kq=>?_;obtain⟨rfl,rfl⟩:=Kq;have hS:(s.heap.push {cls:=.type "list",data:=.seq #[]}).get? s.heap.objs.size=some {cls:=.type "list",data:=.seq #[]}:=aJ _ rfl;refine⟨⟨_,hS,rfl⟩,PySem.F.args_list_init_2 _ _,?_⟩;show aE _ _ (do let old <-oJ (.ref s.heap.objs.size);oD (.ref s.heap.objs.size) (fun J=> #[]);letGo old.toList.reverse;iM (.ref s.heap.objs.size) (.bytes b t) .none) _ _ _;refine af ?_;refine af (iC hS rfl (az ?_));refine af (wpAny_updateSeq hS rfl ?_);have WL:=eC (Obj.mapSeq (fun J=>(#[]:Array ai))) hS rfl;refine af (wpAny_letGo ?_);refine y8 (A:=A.in1) (acc:=[]) hh s.heap.objs.size .none WL (by rw[bZ,cJ,le];exact tO q0) fun h' tk sD c' k WK ia=>?_;obtain⟨vs,rfl,rv⟩:=yl (h:=h') (l:=[]) rfl e ia;have kk:∀b o,s.heap.get? b=some o->h'.get? b=some o:=fun b o e=>k b o (cI (br e)) ((bH _ _ (f7 (br e))).trans (ay _ e));exact⟨rfl,p6.new (o:=.list (l.map .int)) (t:=tk) R trivial (aF _) kk ⟨vs,c',WK,rv⟩ q⟩
theorem HS{acc:List V}{v:ai}(hh:A.handled=none)(R:Rel w.params B H s.heap)(e:H a=some (.list acc))(r:VR s.heap (.bytes l) v)(q0:acc.length+l.length<=pq)(q:Q .none (H.upd a (.list (acc++l.map .int)))):
  aE (aD prog w) A (call (.builtin "list.extend") [.ref a,v]) (p6 w.params B H s Q) E s:=by
 obtain⟨b,t,rfl,eb⟩:=si.mp r;obtain⟨vs,il,rl,n,eo⟩:=pJ (R.obj _ _ e);have le:b.size=l.length:=by rw[eb,ah];rfl
 have hT:s.TypeIs (.ref a) "list":=il.typeIs;refine kD (codeAny_call_builtin PySem.F.slot_list_extend.plain PySem.F.entry_list_extend (PySem.F.slot_list_extend.check _ _ _ _ _ _ _ _ hT (PySem.F.args_list_extend_2 _ _) ?_));refine y8 (A:=A) (R:=nP (p6 w.params B H s Q) E) hh a .none eo (rl.length▸le▸(tO q0)) fun h' tk sD c' k WK ia=>?_;have kk:∀b x,b≠a->b≠LL->s.heap.get? b=some x->h'.get? b=some x:=fun b o hb J e=>k b o hb e;obtain⟨us,rfl,rv⟩:=yl (h:=h') (rl.mono (R.rZ e kk)) eb ia;refine p6.put (t:=tk) (o:=.list (acc++l.map .int)) R e trivial trivial kk (R.glob.extBut (fun b o hb e=>k b o hb e) (Ne.symm (R.ne3 e))) ⟨us,c',WK,rv⟩ (tM.mpr rfl) q
end
end
theorem AX(x:Int):∀l,(Ht x l).Perm (x::l):=by
 intro l;induction l with
 |nil=>exact .refl _
 |cons y r pS=>
  exact by
   show List.Perm (if x<=y then x::y::r else y::Ht x r) _;split
   ·exact .refl _
   ·exact((pS).cons y).trans (.swap x y r)
theorem rt:∀l,(qF l).Perm l:=by
 intro l;induction l with
 |nil=>exact .refl _
 |cons x r pS=>exact(AX x _).trans ((pS).cons x)
theorem Kr(x:Int):∀{l:List Int},l.Pairwise (· <=·)->(Ht x l).Pairwise (· <=·):=by
 intro l;induction l with
 |nil=>exact fun _=>dX _ x
 |cons y r ih=>
  exact fun h=>by
   show List.Pairwise (· <=·) (if x<=y then x::y::r else y::Ht x r);split
   ·rename_i c;refine .cons (fun b hb=>?_) h;rcases aA.mp hb with rfl|hb
    ·exact c
    ·exact aT c ((iN.mp h).1 b hb)
   ·rename_i c;refine .cons (fun b hb=>?_) (ih (iN.mp h).2);rcases aA.mp ((AX x r).mem_iff.mp hb)with rfl|hb
    ·exact Z.o 0x111128931980 [_,_] [] rfl c
    ·exact(iN.mp h).1 b hb
theorem vX:∀l,(qF l).Pairwise (· <=·):=by
 intro l;induction l with
 |nil=>exact .nil
 |cons x r pS=>exact Kr x (pS)
section
variable[Inhabited Tg]
section
variable{prog:Program}{w:aP}{A:aU}{E:ai->Shared->Prop}{s:Shared}{B:Bs}{H:MH}{Q:V->MH->Prop}
theorem y9{h:bp}:∀{vs:List ai} {ns:List Int},iA vs ns->qv h (ns.map V.int) vs:=by
 intro vs ns zz;induction zz with
 |nil=>exact rfl
 |cons n t r pS=>exact⟨_,_,rfl,⟨t,rfl⟩,pS⟩
theorem GG:∀{ns:List Int} {vs:List ai},vs.length=ns.length->(∀(j:Nat) (v:ai),vs[j]? =some v->∃k t,ns[j]? =some k/\v=gU k t)->iA vs ns:=by
 intro ns;induction ns with
 |nil=>
  intro z1;induction z1 with
  |nil=>exact @fun J J=>.nil
  |cons _ _=>exact @fun hl J=>nomatch hl
 |cons n ns Bt=>
  intro z3;induction z3 with
  |nil=>exact @fun hl J=>nomatch hl
  |cons v vs=>exact @fun hl h=>by obtain⟨k,t,e,rfl⟩:=h 0 v rfl;obtain rfl:=au e;exact .cons _ _ (Bt (eR hl) fun j v e=>h (j+1) v e)
theorem Kt{a:Addr}{es:List (Int×V)}{ep:Nat}{v:ai}(hh:A.handled=none)(hB:B.get dq≠none)(R:Rel w.params B H s.heap)(r:VR s.heap (.ref a) v)(e:H a=some (.dict es ep))(q0:es.length<64)(q:rj (.list ((qF (es.map ar)).map .int)) H Q):aE (aD prog w) A (call (.builtin "sorted") [v]) (p6 w.params B H s Q) E s:=by
 subst r;obtain⟨kvs,Az⟩:=rq prog w (R.obj _ _ e);have m:=Az.1;have rl:=Az.2.1;refine kdu_sorted (kdl_dict (knd:=bD prog w) (ep:=ep) (tN R hB e)) hh R.fr R.news m (rl.length▸cQ▸(Z.lbl q0 rfl)) fun D h' tk vs F N lt hl hv=>?_;obtain⟨k,kg⟩:=xE R F N (fun p hp=>.tail _ hp);obtain⟨nw,ng,_⟩:=N _ (.head _);have ia:iA vs (es.map ar):=GG (by refine hl▸?_;refine rl.length▸?_;simp) fun j v ej=>by
  obtain⟨k,x,e1,e2⟩:=hv j v ej;repeat first|clear a|clear ep|clear v|clear hh|clear hB|clear r|clear e|clear knd|clear F|clear N|clear hv|clear p|clear j|clear ej|clear kvs|clear m|clear nd|clear x
  obtain⟨t,rfl⟩:=gy e2;refine⟨_,_,?_,rfl⟩;refine rl.keys.symm▸?_;simp[e1]
 have ho:h'.get? D=some (seqObj "list" vs.toArray 0):=nw;refine cW iO ⟨_,nw,rfl⟩ iD (mQ (n:=0) (vs:=vs) ho ia (hl▸rl.length▸q0) fun out C8 hI hp hP=>⟨.none,rfl,?_⟩) (iQ _);have hns:C8=qF (es.map ar):=lks_uniq (hp.trans (rt _).symm) hP (vX _);repeat first|clear a|clear ep|clear v|clear hh|clear hB|clear r|clear e|clear q0|clear knd|clear ia|clear F|clear N|clear hl|clear hv|clear p|clear hp|clear j|clear ej|clear C8|clear hP|clear kvs|clear m|clear rl|clear nd|clear nw|clear x|clear e1|clear e2
 subst hns;have kk:∀b o,b≠LL->s.heap.get? b=some o->(ib h' D vs out).get? b=some o:=fun b o g eo=>by
  have hb:b≠D:=fun z=>by have:=tU ng lt;have this:=z▸this;have this:=eo▸this;exact nomatch this
  exact(bH _ _ (Ne.symm hb)).trans (ay _ (ay _ ((bH _ _ (Ne.symm hb)).trans (k b o g eo))))
 have kg':(ib h' D vs out).Ns LL B.mg:=by obtain⟨o,tK,Am,e0,rest⟩:=kg;refine⟨o,tK,Am,?_,rest⟩;exact(bH _ _ ng).trans (ay _ (ay _ ((bH _ _ ng).trans e0)))
 have nD:∃n,(ib h' D vs out).get? D=some (listOf out n):=by exact⟨_,fW (ay _ (ay _ (fW ho fun J=> #[]))) fun J=>out⟩
 obtain⟨n,nD⟩:=nD;exact p6.Eu (o:=.list ((qF (es.map ar)).map .int)) (t:=tk) R trivial (tU ng lt) kk kg' ⟨out.toList,n,nD,y9 hI⟩ q
end
end
section
variable[Inhabited Tg]
section
variable{prog:Program}{w:aP}{A:aU}{E:ai->Shared->Prop}{s:Shared}{B:Bs}{H:MH}
theorem NY:typeLookup (.type "bytes") "__bytes__"=cL (some (.builtin "bytes.__bytes__")):=by rw[jM,gV];kernel_rfl
theorem EO{b:Array UInt8}{t:Tok}{Q:ai->Shared->Prop}(h:Q (.bytes b t) s):aE (aD prog w) A (call (.type "bytes") [.bytes b t]) Q E s:=by refine mP (Q₁:=fun obj qL=>qL.TypeIs obj "bytes"/\Q obj qL) F.bm_called (F.bm_typeCall _) F.entry_object_init ?_ fun obj qL Kq=>⟨Kq.1,F.args_object_init_2 obj _,object_init_meets F.bm_called.init.lookup F.bm_called.made ⋯ prog w A.in1 _ qL ⟨Kq.1,rfl,Kq.2⟩⟩;refine mC ?_;show aE _ A.in1.in1 (do checkBuiltinCall "bytes.__new__" ⟨[.type "bytes",.bytes b t],[]⟩;again (.builtin "bytes.__new__" ⟨[.type "bytes",.bytes b t],[]⟩)) _ _ s;refine af (cR (F.bm_newCall _) (az ⟨kQ F.bm_plain _,codeAny_builtin F.bm_entry ?_⟩));refine(Around.under_plainId F.bm_plain _).symm▸?_;refine af (cR (a:=true) rfl ?_);refine mc rfl ?_;refine af (cR F.bm_sub ?_);refine mc rfl ?_;refine af (cR (F.bm_bind _) ?_);refine af (cR (a:=()) rfl ?_);refine af (cR (a:=()) rfl ?_);refine mc rfl ?_;refine af (jL (ee s b t) NY ?_);refine af (hN ?_);refine af (gc (ee s b t) ?_);refine bm_if_true ⋯ ?_;exact az ⟨(ee s b t),h⟩
theorem AA(b:Array UInt8)(u:Tok)(t:Addr)(WM:List ai)(n:Nat)(d:Option Addr)(sl:Array (Option ai)):
  Meets (Builtin.«isinstance.nested» ⟨[.bytes b u,.ref t,kj 0],[]⟩) (fun J R s=>s.heap.get? t=some {cls:=.type "tuple",dict:=d,data:=.seq (.type "bytes"::WM).toArray n,slots:=sl}/\R (.ok (.ret (.bool true))) s):=
 .of_wp fun prog w A R s h=>by
  obtain⟨hp,g,d,tk,os⟩:=s;obtain⟨hl,h⟩:=h
  wp_walk
  refine cR AutoSeq1.sub_tuple_tuple ?_
  refine(if_pos rfl)▸?_
  refine af (iC hl rfl ?_)
  simp only[Option.getD_some,List.forIn_toArray,jN]
  refine af (af (af ?_))
  refine call_function_entry (id:="isinstance.nested") (by decide+kernel) (by decide+kernel) F.entry_isinstance_nested (by unfold ki;kernel_rfl) ?_
  refine isinstance_nested_true (dep:=1) (tk:=0) (by rfl) (ee _ b u) F.isi_meta_bytes F.sub_bytes_bytes ⟨_,rfl,?_⟩
  refine af (dS ?_)
  refine(if_pos rfl)▸?_
  refine af (az ?_)
  refine az ?_
  refine az ?_
  exact az ⟨_,rfl,h⟩
theorem AB{b:Array UInt8}{u:Tok}{t:Addr}{WM:List ai}{Q:ai->Shared->Prop}(ht:gJ s.heap t (.type "bytes"::WM).toArray)(h:Q (.bool true) s):aE (aD prog w) A (call (.builtin "isinstance") [.bytes b u,.ref t]) Q E s:=by obtain⟨⟨oc,od,oda,ZW⟩,ho,h1,n,h2⟩:=ht;simp only at h1 h2;subst h1 h2;have g:Meets (Builtin.«isinstance» ⟨[.bytes b u,.ref t],[]⟩) (fun J R s=>s.heap.get? t=some {cls:=.type "tuple",dict:=od,data:=.seq (.type "bytes"::WM).toArray n,slots:=ZW}/\R (.ok (.ret (.bool true))) s):=fun prog w A R s hs=>isinstance_outer (AA b u t WM n od ZW prog w A R s hs) (by intro e;cases e);exact mD g ⟨ho,h⟩
theorem ER{i:Int}(h:0<=i/\i<256):((i.toNat.toUInt8).toNat:Int)=i:=by obtain⟨n,rfl⟩:=jH h.1;have:n<256:=(bR.mp h.2);simp[UInt8.toNat_ofNat_of_lt' this]
theorem C9:∀{is:List Int},(∀i∈is,0<=i/\i<256)->is=(is.map fun n=>n.toNat.toUInt8).map fun x=>(x.toNat:Int):=by
 intro is;induction is with
 |nil=>exact fun J=>rfl
 |cons i r ih=>exact fun h=>by simp only[bL];rw[ER (h i (.head _)),<-ih fun j hj=>h j (.tail _ hj)]
variable{Q:V->MH->Prop}
theorem Sh{a:Addr}{l:List V}{is:List Int}{v:ai}(hh:A.handled=none)(R:Rel w.params B H s.heap)(r:VR s.heap (.ref a) v)(o:H a=some (.list l))(ei:tH l=some is)(h:is.length<=pq)(h1:∀i∈is,0<=i/\i<256)(q:Q (.bytes is) H):aE (aD prog w) A (call (.type "bytes") [v]) (p6 w.params B H s Q) E s:=by subst r;obtain⟨vs,il,rl,_⟩:=pJ (R.obj _ _ o);refine bytes_K R.fr R.news il (wG rl ei) h1 ((wG rl ei).length▸(tO h)) hh fun h' t k F N J=>?_;have xf:=xE R F N (fun p hp=>hp);exact p6.ext3 (t:=k) R xf.1 xf.2 (si.mpr ⟨_,t,rfl,C9 h1⟩) q
theorem Si{h:bp}{n:String}{v:ai}:VR h (.typ n) v↔v=.type n:=Iff.rfl
end
end
section
variable[Inhabited Tg]
section
variable{prog:Program}{w:aP}{A:aU}{E:ai->Shared->Prop}{s:Shared}{B:Bs}{H:MH}
theorem Sj{b:Bi}{as:List V}{vs:List ai}{Q:V->MH->Prop}(hh:A.handled=none)(hB:B.get dq≠none)(R:Rel w.params B H s.heap)(r:qv s.heap as vs)(q:qt H Q b as):
  aE (aD prog w) A (call (ED b) vs) (p6 w.params B H s Q) E s:=by
 induction q using qt.casesOn with
 |rS h q=>obtain⟨v,rfl,r1⟩:=tA r;exact R0 R r1 h q
 |Hu h q=>obtain⟨v,rfl,r1⟩:=tA r;exact R7 R r1 h q
 |Nh h q=>obtain⟨v,rfl,r1⟩:=tA r;obtain⟨t,rfl⟩:=se.mp r1;exact oQ (by have:=uZ h;exact Z.o 0x11112000000048386186000000000000000800000000f33 [] [_] rfl this) (p6.tok R (pO.mpr ⟨_,rfl⟩) q)
 |ud o h q=>obtain⟨v,rfl,r1⟩:=tA r;exact R8 R r1 o h q
 |Q7 o h q=>obtain⟨v,rfl,r1⟩:=tA r;exact R9 hB R r1 o h q
 |abs q=>obtain⟨v,rfl,r1⟩:=tA r;exact WE R r1 q
 |ord e q=>obtain⟨v,rfl,r1⟩:=tA r;exact WG R r1 e q
 |toI q=>obtain⟨v,rfl,t,rfl⟩:=tA r;exact call_int_int (p6.here R (pO.mpr ⟨_,rfl⟩) q)
 |toB q=>obtain⟨v,rfl,r1⟩:=tA r;subst r1;exact call_int_bool (p6.tok R (pO.mpr ⟨_,rfl⟩) q)
 |sum o e q=>obtain⟨v,rfl,r1⟩:=tA r;exact WH hh R r1 o e q
 |max2 q=>obtain⟨v,u,rfl,r1,r2⟩:=Ay r;exact Sb hh R r1 r2 q
 |ac7 q=>obtain⟨_,_,rfl,⟨t,rfl⟩,_,_,rfl,⟨t2,rfl⟩,r1⟩:=r;obtain⟨_,_,rfl,⟨t3,rfl⟩,⟨t4,rfl⟩⟩:=Ay r1;exact Km hh fun h' tk t' k=>vF R k (pO.mpr ⟨_,rfl⟩) q
 |tL o e q=>obtain⟨v,rfl,r1⟩:=tA r;exact Sa hh R r1 o e q
 |min e q=>obtain⟨v,rfl,r1⟩:=tA r;exact WJ hh R r1 e q
 |Qa o h q=>obtain⟨v,rfl,r1⟩:=tA r;exact NW R r1 o h q
 |Qb h q=>obtain⟨v,rfl,r1⟩:=tA r;exact NV R r1 h q
 |Qc h q=>obtain⟨v,rfl,r1⟩:=tA r;exact NX hh R r1 h q
 |Ni o h q=>obtain⟨v,rfl,r1⟩:=tA r;exact Sd R r1 o h q
 |Nj q=>obtain⟨_,rfl,a,vs,rfl,g,ht,rl⟩:=tA r;exact call_tuple_tup ht (p6.here R (qN.mpr ⟨a,vs,rfl,g,ht,rl⟩) q)
 |dict o h q=>obtain⟨v,rfl,r1⟩:=tA r;exact Se hB R r1 o h q
 |Q8 o e h h1 q=>obtain⟨v,rfl,r1⟩:=tA r;exact Sh hh R r1 o e h h1 q
 |VW q=>obtain⟨_,rfl,b,t,rfl,e⟩:=tA r;exact EO (p6.here R (si.mpr ⟨b,t,rfl,e⟩) q)
 |sorted o h q=>obtain⟨v,rfl,r1⟩:=tA r;exact Kt hh hB R r1 o h q
 |CL h q=>obtain⟨_,rfl,t,rfl⟩:=tA r;exact call_range_1 (BF R q)
 |VX h h1 q=>obtain⟨_,_,rfl,⟨t,rfl⟩,⟨t',rfl⟩⟩:=Ay r;exact call_range_2 (BF R q)
 |Q9 h h1 h2 q=>obtain⟨_,_,rfl,⟨t,rfl⟩,r1⟩:=r;obtain⟨_,_,rfl,⟨t',rfl⟩,⟨t'',rfl⟩⟩:=Ay r1;exact call_range_3 (by rcases h2 with z|z<;>refine z▸?_<;>decide) (BF R q)
 |ac8 q=>obtain⟨_,_,rfl,⟨t,rfl⟩,rfl⟩:=Ay r;exact IsiPair.int_int (p6.here R (x:=.bool true) rfl q)
 |ac9 q=>obtain⟨_,_,rfl,⟨t,rfl⟩,rfl⟩:=Ay r;exact IsiPair.int_bool (p6.tok R (x:=.bool false) rfl q)
 |isS q=>obtain⟨_,_,rfl,⟨t,rfl⟩,rfl⟩:=Ay r;exact IsiPair.str_str (p6.here R (x:=.bool true) rfl q)
 |isT q=>obtain⟨_,_,rfl,⟨a,vs,rfl,g,⟨o,eo,ec,_⟩,rl⟩,rfl⟩:=Ay r;exact IsiPair.tuple_tuple eo ec (p6.here R (x:=.bool true) rfl q)
 |isB q=>obtain⟨_,_,rfl,⟨b,t,rfl,e⟩,rfl⟩:=Ay r;exact mD (isinstance_true (Tx:="bytes") F.isi_meta_bytes F.sub_bytes_bytes) ⟨ee s b t,p6.here R (x:=.bool true) rfl q⟩
 |VY h q=>obtain⟨_,_,rfl,⟨b,t,rfl,e⟩,r2⟩:=Ay r;obtain⟨a,_,rfl,g,ht,⟨v,vs,rfl,rfl,_⟩⟩:=r2;exact AB ht (p6.here R (x:=.bool true) rfl q)
end
end
section
variable[Inhabited Tg]
section
variable{c:Cfg}{A:aU}{W:Addr->Prop}{Ef:EF}
theorem tV{K:Frag}{M:je}{f:ai}(hf:∀a,f≠.ref a)(h:bp)(_:K.In h):∃k,(k=lE\/k=j9\/k=jc)/\Looks M h (nZ f) k:=
 ⟨.machine,.inr (.inl rfl),Looks.of_pure (by induction f using nF<;>first|rfl|exact absurd rfl (hf _))⟩
theorem u5{x:PySem.Str}{v:ai}{env:Env}{Γ:Cx}{H:MH}{s:Shared}{E:ai->Shared->Prop}{Q:ai->Shared->Prop}(b:yU c x v)(V:qG env Γ)(R:Rel c.w.params c.B H s.heap)(q:Q v s):
  aE (aD c.prog c.w) A (loadGlobal env x) Q E s:=by obtain⟨h1,mb,uw⟩:=b;exact loadGlobal_builtin (by rw[V.glob];exact(uw.1 _ R.sup R.glob).1) h1 (by rw[V.blt];exact(uw.1 _ R.sup R.glob).2) uw.2 q
theorem Dd(b:Bi)(a:Addr):ED b≠.ref a:=by induction b using Bi.casesOn<;>exact nofun
theorem Ku{Γ:Cx}{x:PySem.Str}{p pos:Pos}{es:List Expr}{b:Bi}{g:Expr->X}(C:c.Ok A W Ef)(h:(qX x&&Γ.kinds.lookup x==some .globalImplicit)=true)(hg:c.gl x=some (.blt b))(ns:es.all noStar=true)
  (a1:yW c A W Ef Γ es (xK (es.map g))):qK c A W Ef Γ (.Call (.Name x p) es [] pos) (.blt b (xK (es.map g))):=fun env U H s Q X V R F q=>by rw[aR,beq_iff_eq]at h;dsimp only[JD]at q;refine fG (du V.kind (by unfold Env.kindOf;refine V.names▸?_;exact h.2) (u5 (C.blt x b hg) V R ?_) (s9 h.1));refine qO (Q:=fun vs H1=>qt H1 Q b vs) rfl C (tV (Dd b)) ns a1 V R F [] q fun v s1 x H1 r1 R1 N1 q1=>?_;exact aB (Sj C.hh C.sm R1 r1 q1) (fun J J z=>z.after N1) fun J J z=>z
theorem Sk(C:c.Ok A W Ef){K:Addr}{vs:List ai}{as:List V}{H:MH}{s:Shared}{Q:QV}{X:QE}(R:Rel c.w.params c.B H s.heap)(r:qv s.heap as vs)(q:Ey c.Θ c.call K as H Q X):
  aE (aD c.prog c.w) A (call (.ref K) vs) (p6 c.w.params c.B H s Q) (Ef H s X) s:=by
 obtain⟨f,yX⟩:=q;have BG:=C.new K f yX.1;obtain⟨hh,g,d,t,os⟩:=s;refine kD ?_;refine make_core (makes_of (R.MO C.kb) BG.2.1) (looks_findIn (R.MO C.kb) BG.2.2.1) (fun self=>bind_fn (R.MO C.kb) self BG.2.2.2) (.inl rfl) ?_;have R:Rel c.w.params c.B H hh:=R;have k:∀b o,hh.get? b=some o->((hh.push emptyDict).push (gu K hh.objs.size)).get? b=some o:=fun b o e=>ay _ (ay _ e);have sz:(hh.push emptyDict).objs.size=hh.objs.size+1:=b9 ..;have gi:((hh.push emptyDict).push (gu K hh.objs.size)).get? (hh.objs.size+1)=some (gu K hh.objs.size):=sz▸(aJ _ rfl);have gd:((hh.push emptyDict).push (gu K hh.objs.size)).get? hh.objs.size=some emptyDict:=ay _ (aJ _ rfl);have hr:OR c.w.params ((hh.push emptyDict).push (gu K hh.objs.size)) (hh.objs.size+1) (.inst K []):=⟨hh.objs.size,[],0,gi,gd,rfl⟩;have ne:hh.objs.size+1≠hh.objs.size:=fH _;have R1:=R.VI (f:=[]) BG.1 (bA _) (aF _) ne k ⟨_,gi,rfl⟩ hr;have N1:Nx X0 H ⟨hh,g,d,t,os⟩ (H.upd (hh.objs.size+1) (.inst K [])) ⟨(hh.push emptyDict).push (gu K hh.objs.size),g,d,t,os⟩:=Nx.qR (s:=⟨hh,g,d,t,os⟩) (t:=t) ((R.max X0).VI (f:=[]) BG.1 (bA _) (aF _) ne k ⟨_,gi,rfl⟩ hr) (pY.of fun b o J=>k b o);have q':=yX.2 (hh.objs.size+1) (R.fresh (bA _));refine fy (C.init K vs f (.ref (hh.objs.size+1)::as) (.ref (hh.objs.size+1)::vs) _ ⟨(hh.push emptyDict).push (gu K hh.objs.size),g,d,t,os⟩ _ X R1 ⟨_,_,rfl,rfl,qv.mono (pY.of fun b o J=>k b o) r⟩ q') fun rr s' z=>?_;induction rr using fA with
 |error e=>exact C.en N1.up z
 |ok f=>induction f using jv with
  |ret v=>obtain⟨x,H',rx,R',N',e,q2⟩:=z;subst e;subst rx;exact⟨rfl,.ref _,H',tx.mpr rfl,R',N1.trans N',q2⟩
  |next=>exact z.elim
  |brk=>exact z.elim
  |cont=>exact z.elim
theorem Kv{Γ:Cx}{x:PySem.Str}{p pos:Pos}{es:List Expr}{K:Addr}{g:Expr->X}(C:c.Ok A W Ef)(h:(qX x&&Γ.kinds.lookup x==some .globalImplicit)=true)(hg:c.gl x=some (.cls K))(ns:es.all noStar=true)
  (a1:yW c A W Ef Γ es (xK (es.map g))):qK c A W Ef Γ (.Call (.Name x p) es [] pos) (.new K (xK (es.map g))):=fun env U H s Q X V R F q=>by simp only[aR,beq_iff_eq]at h;dsimp only[JC]at q;obtain⟨e,kf⟩:=C.cls x K hg;refine fG (du V.kind (by unfold Env.kindOf;refine V.names▸?_;exact h.2) (jb (V.glob▸(C.main _ R.sup R.glob)) e ?_) (s9 h.1));refine qO (Q:=fun vs H1=>Ey c.Θ c.call K vs H1 Q X) rfl C (keeps_K kf) ns a1 V R F [] q fun v s1 x H1 r1 R1 N1 q1=>?_;exact aB (Sk C R1 r1 q1) (fun J J z=>z.after N1) fun J J=>C.en N1.up
end
end
section
variable[Inhabited Tg]
section
variable{prog:Program}{w:aP}{A:aU}{E:ai->Shared->Prop}{s:Shared}{B:Bs}{H:MH}
theorem HT{a b:Addr}{l m:List V}{Q:V->MH->Prop}(R:Rel w.params B H s.heap)(e:H a=some (.list l))(eb:H b=some (.list m))(q0:l.length+m.length<=pq)(q:Q .none (H.upd a (.list (l++m)))):aE (aD prog w) A (call (.builtin "list.extend") [.ref a,.ref b]) (p6 w.params B H s Q) E s:=by
 obtain⟨vs,il,rl,n,eo⟩:=pJ (R.obj _ _ e);obtain⟨us,im,rm,n2,eu⟩:=pJ (R.obj _ _ eb);have hz:(vs.toArray.size+us.toArray.size:Nat)<=2^23:=by rw[aN,aN,rl.length,rm.length];exact q0
 refine call_meets PySem.F.slot_list_extend ⟨_,eo,rfl⟩ PySem.F.entry_list_extend (PySem.F.args_list_extend_2 _ _) (PySem.AutoSeq1.list_extend_list_list_0 a vs.toArray n b us.toArray n2 (fun z=>?_) (by rw[cQ];exact Z.o 0x11112000008639815100000017385 [] [_,_] rfl hz) (by rw[cQ];exact Z.lb hz rfl)) ⟨eo,eu,?_⟩
 ·simp only[aR,oh,decide_eq_true_eq]at z;have:=z.2;exact Z.o 0x1111039810000001736000008639815200f [] [_,_] rfl hz this
 ·exact p6.put (t:=s.toks) (o:=.list (l++m)) R e trivial trivial (fun b o hb J e=>(bH _ _ (Ne.symm hb)).trans e) (R.glob.extBut (fun b o hb e=>(bH _ _ (Ne.symm hb)).trans e) (Ne.symm (R.ne3 e))) ⟨_,_,(by rw[<-List.append_toArray];exact fW eo fun x=>x++us.toArray),(rl.mono (R.rZ e (fun b o hb J e=>(bH _ _ (Ne.symm hb)).trans e))).append (rm.mono (R.rZ e (fun b o hb J e=>(bH _ _ (Ne.symm hb)).trans e)))⟩ (tM.mpr rfl) q
inductive De:Nat->String->Prop where|app:De 1 "list.append"|ext:De 16 "list.extend"|pop:De 45 "list.pop"
theorem NZ{a:Addr}{l:List V}{k:Nat}{id:String}{as:List V}{vs:List ai}{Q:V->MH->Prop}(hh:A.handled=none)(hk:De k id)(R:Rel w.params B H s.heap)(e:H a=some (.list l))(r:qv s.heap as vs)(q:qS a l H Q k as):
  aE (aD prog w) A (call (.builtin id) (.ref a::vs)) (p6 w.params B H s Q) E s:=by
 induction q using qS.casesOn with
 |app h q=>cases hk;obtain⟨v,rfl,r1⟩:=tA r;exact HF R e r1 h q
 |VS o h n q=>cases hk;obtain⟨v,rfl,rfl⟩:=tA r;exact HT R e o h q
 |VT h q=>cases hk;obtain⟨v,rfl,r1⟩:=tA r;exact HS hh R e r1 h q
 |pop ex h q=>cases hk;subst r;exact RB R e ex h q
end
section
variable{c:Cfg}{A:aU}{W:Addr->Prop}{Ef:EF}
inductive zc(c:Cfg)(k:Nat)(Q:MK->Prop)(a:Addr):ai×List ai->Prop where
 |user {g} (kf:hU c.K (.ref (c.fa g))=true) (q:Q (.user g a)):zc c k Q a (.ref (c.fa g),[.ref a])
 |lst {id} (h:De k id) (q:Q (.lst a)):zc c k Q a (.builtin id,[.ref a])
 |uH (h:k=19) (q:Q (.uH a)):zc c k Q a (.builtin "dict.get",[.ref a])
theorem WN{Q:MK->Prop}(C:c.Ok A W Ef){H:MH}{s:Shared}{x:V}{v:ai}{k:Nat}{pl:Sem Bool}{E:ai->Shared->Prop}(hk:k<76)(R:Rel c.w.params c.B H s.heap)(r:VR s.heap x v)(q:xC c.Θ k H Q x):
  aE (aD c.prog c.w) A (getMethod v (AT k) pl) (fun fx s1=>s1=s/\∃a,zc c k Q a fx) E s:=by
 induction q using xC.casesOn with
 |user e hl hm q=>have HU:=C.pD _ k _ (R.good _ _ _ e) hm;subst r;obtain⟨d,qQ,n,I,e1,e2,fr⟩:=uW (R.obj _ _ e);have CO:=C.tb.ok _ (R.good _ _ _ e);exact method_fn (R.MO C.kb) I CO.ga CO.gn HU.2.1 HU.2.2.1 (by show(lookIn (AT k) (gG qQ n)).map _=_;rw[jX,(FR.find hk fr).2 hl];rfl) ⟨rfl,_,.user HU.2.2.2 q⟩
 | @lst a0 l0 e hk1 q=>
  subst r;obtain⟨vs,il,rl,n,eo⟩:=pJ (R.obj _ _ e);have hd:∀b,iR a0=.ref b->∃o,s.heap.get? b=some o/\o.dict=none:=fun b z=>by cases z;exact⟨_,eo,rfl⟩
  rcases hk1 with rfl|rfl|rfl
  ·exact gz (id:="list.append") ⟨_,eo,rfl⟩ PySem.F.plainAttrs_list PySem.F.slot_list_append PySem.F.type_list_append hd ⟨rfl,_,.lst .app q⟩
  ·exact gz (id:="list.extend") ⟨_,eo,rfl⟩ PySem.F.plainAttrs_list PySem.F.slot_list_extend PySem.F.type_list_extend hd ⟨rfl,_,.lst .ext q⟩
  ·exact gz (id:="list.pop") ⟨_,eo,rfl⟩ PySem.F.plainAttrs_list PySem.F.slot_list_pop PySem.F.type_list_pop hd ⟨rfl,_,.lst .pop q⟩
 |uH e h q=>obtain⟨qQ,n,eo,dr⟩:=wF (R.obj _ _ e);subst r;subst h;exact gz (id:="dict.get") ⟨_,eo,rfl⟩ PySem.F.plainAttrs_dict PySem.F.slot_dict_get PySem.F.type_dict_get (fun b z=>by cases z;exact⟨_,eo,rfl⟩) ⟨rfl,_,.uH rfl q⟩
theorem N8{env:Env}:∀{es:List Expr},(fF es env).length=es.length:=by
 intro es;induction es with
 |nil=>exact rfl
 |cons e r pS=>exact by have:=pS;induction e using Expr.casesOn<;>exact congrArg (· +1) this
theorem HV{Γ:Cx}{o:Expr}{x:PySem.Str}{ap pos:Pos}{es:List Expr}{k:Nat}{y:X}{g:Expr->X}(C:c.Ok A W Ef)(h:uY x=some k)(hb:∀env,i7 o x env (fE o env)=fE o env)(hl:(ap.endLine==pos.line)=true)(hn:es.length<30)
  (ns:es.all noStar=true)(a0:qK c A W Ef Γ o y)(a1:yW c A W Ef Γ es (xK (es.map g))):qK c A W Ef Γ (.Call (.Attribute o x ap) es [] pos) (.pD y k (xK (es.map g))):=fun env U H s Q X V R F q=>by
 obtain⟨hk,rfl⟩:=vW h;dsimp only[Gi]at q;rw[arm_eval_Call,hb];refine af (rD (a0 env U H s _ X V R F q) fun v1 s1 x1 H1 r1 R1 N1 q1=>af (dh ?_));have af7:methodCallForm (es.length+([]:List Keyword).length) (jr pos (fF es env)) (backToKw pos (keywordEach [] env))=true:=by
  have e1:(jr pos (fF es env)).all (!·.1)=true:=by have:=w9 (pos:=pos) (env:=env) ns;rw[List.any_eq_false]at this;rw[bS];intro z hz;simpa using this z hz
  show((jr pos (fF es env)).all (!·.1)&&true&&decide (es.length+0+0<30))=true;refine e1.symm▸?_;simpa using hn
 unfold methodCall;refine af7▸?_;refine af (cC ?_);refine aB (WN C hk R1 r1 q1) (fun fx s2 z=>?_) fun J J z=>z;obtain⟨rfl,a,z⟩:=z;refine af (cR (a:=pos) (by show methodCallPos true o env ap pos=cL pos;unfold methodCallPos;refine hl.symm▸?_;rfl) ?_);have Fx:=F.pI N1;induction z using zc.casesOn with
 | @user gg kf q2=>refine aB (qO (Ef:=Ef) (XE:=X) (Q:=fun vs H2=>yy c.call (.user gg a) k vs H2 Q X) rfl C (keeps_K kf) ns a1 V R1 Fx [.ref a] q2 fun v s3 xs H3 r3 R3 N3 q3=>?_) (fun J J z=>z) fun J J=>C.en N1.up;exact aB (kD (C.call gg (.ref a::xs) (.ref a::v) H3 s3 Q X R3 ⟨_,_,rfl,rfl,r3⟩ q3)) (fun J J z=>(z.after N3).after N1) fun J J=>C.en N3.up
 |lst U5 q2=>refine aB (qO (Ef:=Ef) (XE:=X) (Q:=fun vs H2=>yy c.call (.lst a) k vs H2 Q X) rfl C (tV (fun J z=>by cases z)) ns a1 V R1 Fx [.ref a] q2 fun v s3 xs H3 r3 R3 N3 q3=>?_) (fun J J z=>z) fun J J=>C.en N1.up;obtain⟨l,e,q3⟩:=q3;exact aB (NZ C.hh U5 R3 e r3 q3) (fun J J z=>(z.after N3).after N1) fun J J z=>z
 |uH h q2=>have q2:=h▸q2;refine aB (qO (Ef:=Ef) (XE:=X) (Q:=fun vs H2=>yy c.call (.uH a) 19 vs H2 Q X) rfl C (tV (fun J z=>by cases z)) ns a1 V R1 Fx [.ref a] q2 fun v s3 xs H3 r3 R3 N3 q3=>?_) (fun J J z=>z) fun J J=>C.en N1.up;obtain⟨l,ep,e,q3⟩:=q3;exact aB (RD C.sm R3 e r3 q3) (fun J J z=>(z.after N3).after N1) fun J J z=>z
end
end
section
variable[Inhabited Tg]
theorem Df(n:Nat)(i:Int):eh n i=min (uu n i) n:=by
 have:=clipAt_cast n i;unfold uu;split at this<;>rename_i h
 ·rw[if_pos h];exact fN (this.trans (Z.tm _ _))
 ·rw[if_neg h];exact fN (this.trans (Z.tm _ _))
theorem Kw(l:List α)(a b:Nat):(l.drop (min a l.length)).take (min b l.length - min a l.length)=(l.drop a).take (b - a):=by
 rcases k9 l.length a with h|h
 ·rw[jn h,j2 (aF _),j2 h,kS,kS]
 ·rw[gZ h];rcases k9 l.length b with h2|h2
  ·rw[jn h2,d6 (by rw[eS];exact aF _),d6 (by rw[eS];exact Nat.sub_le_sub_right h2 a)]
  ·rw[gZ h2]
theorem ze(l:List α)(lo hi:Option Int):(l.drop (lo.elim 0 (eh l.length))).take (hi.elim l.length (eh l.length) - lo.elim 0 (eh l.length))=rR l lo hi:=by
 have e1:lo.elim 0 (eh l.length)=min (match lo with|none=>0|some i=>uu l.length i) l.length:=by
  induction lo using cO with
  |none=>exact(nT _).symm
  |some i=>exact Df _ _
 have e2:hi.elim l.length (eh l.length)=min (match hi with|none=>l.length|some i=>uu l.length i) l.length:=by
  induction hi using cO with
  |none=>exact(Nat.min_self _).symm
  |some i=>exact Df _ _
 rw[e1,e2,Kw];rfl
theorem Kx{lo hi:Option Int}(h:m.length=l.length)(e:rR m lo hi=m):rR l lo hi=l:=by
 rw[<-ze]at e ⊢;have h1:=congrArg dj e;rw[h,gO,eS,h]at h1;repeat first|clear α|clear β|clear m|clear hi|clear h|clear e
 induction l using aH with
 |nil=>rw[List.drop_nil,kS]
 |cons x r=>have e0:lo.elim 0 (eh (x::r).length)=0:=Nat.eq_zero_of_not_pos fun hb=>mE.mpr (Nat.sub_lt (cH _) hb) (ae (cj h1.symm) (mh _ _));rw[e0]at h1 ⊢;rw[mR,d6 (ae (cj h1.symm) (mF _ _))]
section
variable{prog:Program}{w:aP}{A:aU}{E:ai->Shared->Prop}{s:Shared}{B:Bs}{H:MH}
theorem part_of(r:VR h x v)(e:yw x o):iS v o:=by
 induction e using yw.casesOn with
 |none=>subst r;exact .none
 |int=>obtain⟨t,rfl⟩:=r;exact .int _ t
theorem ES(lo hi:Option Int)(n:Nat):fX lo hi 1 (n:Int)=(((lo.elim 0 (eh n):Nat):Int),((hi.elim n (eh n):Nat):Int)):=by
 unfold fX;simp only[(show ¬((1:Int)<0)from Z.ZH),if_false];have c:∀i:Int,(if i<0 then max (i+n) 0 else min i n)=((eh n i:Nat):Int):=fun i=>by rw[clipAt_cast];split;exact(Int.max_comm _ _).trans (congrArg (max 0) (mu (b7 (Z.ad2 ‹_›))).symm);exact(gM (oO.mpr ⟨bJ.mp ‹_›,Z.cn⟩)).symm
 induction lo using cO<;>induction hi using cO<;>simp only[Option.elim_none,Option.elim_some,c,Int.natCast_zero]
theorem ET(a b:Nat):eJ (a:Int) (b:Int) 1=b - a:=by unfold eJ;simp only[(show(1:Int)>0 from Z.cn),if_true,Int.ediv_one];split;exact(congrArg Int.toNat (fc _ 1)).trans (nG b a);exact(Nat.sub_eq_zero_of_le (bq.mp (bJ.mp ‹_›))).symm
theorem Dg(p:iS v o)(h:Q o s):aE (aD prog w) A (mS v) Q E s:=by
 induction p using IsPart.casesOn with
 |none=>exact mT h
 |int i t=>exact slicePart_int h
theorem xR{lo hi:Option Int}{Q:Int×Int×Nat->Shared->Prop}(hs:s.heap.IsSliceOf sl vl vu .none)(pl:iS vl lo)(pu:iS vu hi)(h:Q (((lo.elim 0 (eh n):Nat):Int),1,hi.elim n (eh n) - lo.elim 0 (eh n)) s):
  aE (aD prog w) A (nH (.ref sl) (cL (n:Int))) Q E s:=by obtain⟨os,vD⟩:=id hs;refine af (af (gH vD.1 vD.2.2 (x:=vl) rfl (af (gH vD.1 vD.2.2 (x:=vu) rfl (af (gH vD.1 vD.2.2 (x:=.none) rfl (az ?_)))))));refine af (mT ?_);refine af (Dg pl (af (Dg pu (af (az ?_)))));show aE _ _ (match fX lo hi 1 (n:Int)with|(lo,hi)=>cL (lo,(1:Int),eJ lo hi 1)) _ _ s;rw[ES];show aE _ _ (cL (((lo.elim 0 (eh n):Nat):Int),(1:Int),eJ _ _ 1)) _ _ s;rw[ET];exact az h
theorem Ky(xs:Array ai)(a n:Nat):((dn n).filterMap fun(k:Nat)=>xs[((a:Int)+(k:Int)*1).toNat]?)=(xs.toList.drop a).take n:=by
 have e:(fun(k:Nat)=>xs[((a:Int)+(k:Int)*1).toNat]?)=fun k=>xs[a+k]? :=by funext k;have:((a:Int)+(k:Int)*1).toNat=a+k:=((aQ ..).symm);rw[this]
 refine e▸?_;have:=pick_run xs a n;rw[List.filterMap_map]at this;exact this
theorem HW{vl vu:ai}{lo hi:Option Int}{Q:ai->Shared->Prop}(ht:gJ s.heap t items.toArray)(hs:s.heap.IsSliceOf sl vl vu .none)(pl:iS vl lo)(pu:iS vu hi)(hz:items.length<=sizeLine)
  (h1:rR items lo hi=items->Q (.ref t) s)(h2:Q (.ref s.heap.objs.size) {s with heap:=s.heap.push {cls:=.type "tuple",data:=.seq (rR items lo hi).toArray}}):aE (aD prog w) A (jj (.ref t) (.ref sl)) Q E s:=by
 have WO:sizeOk (.seq (rR items lo hi).toArray):=by show(rR items lo hi).toArray.size<=sizeLine;rw[aN];unfold rR;rw[gO,eS];exact ae (mh _ _) (ae (Nat.sub_le _ _) hz)
 obtain⟨os,vD⟩:=id hs;have hTs:s.TypeIs (.ref sl) "slice":=⟨os,vD.1,vD.2.1⟩;unfold jj;try with_reducible refine cC ?_
 first|refine af (az ?_)|skip
 refine af (wpAny_sequenceKey ht.typeIs ⋯ ?_);refine af (dY (name:=PySem.Str.ofString "__getitem__") ht.typeIs iT (cW iT ht.typeIs entry_tuple_getitem ?_ (args_tuple_getitem _ _)));show aE _ _ (nJ (.ref t)>>=_) _ _ s;refine af (tupleItemsOf_ ht ?_);refine af (gc hTs ?_);refine af (xR hs pl pu ?_);dsimp only;rw[Ky];have e:(items.toArray.toList.drop (lo.elim 0 (eh items.toArray.size))).take (hi.elim items.toArray.size (eh items.toArray.size) - lo.elim 0 (eh items.toArray.size))=rR items lo hi:=by refine aN▸?_;exact ze items lo hi
 refine e▸?_;have fin:aE (aD prog w) A.in1 (do let r <-jw (rR items lo hi).toArray;ret r) (fun fin s'=>∃v,fin=PySem.Fin.done (.ret v)/\aE (aD prog w) A (cL v) Q E s') E s:=af (m:=jw _) (cN (az ⟨_,rfl,az h2⟩) WO);split
 ·rename_i hc;simp only[aR,beq_iff_eq]at hc;have e1:rR items lo hi=items:=by
   refine e▸?_;refine hc.2.symm▸?_;have:lo.elim 0 (eh items.toArray.size)=0:=by have:=hc.1.1;exact Z.o 0x1101130111130386210387 [] [_] rfl hc.1.1
   refine this.symm▸?_;simp
  refine af ?_;show aE _ _ (typeOf (.ref t)>>=_) _ _ s;refine af (gc ht.typeIs (az ?_));rw[if_pos ⋯];exact af (hN (az ⟨_,rfl,az (h1 e1)⟩))
 ·exact fin
theorem qv.Al(r:qv h l vs)(lo hi:Option Int):qv h (rR l lo hi) (rR vs lo hi):=by unfold rR;exact r.length▸(qv.take _ (qv.drop _ r))
theorem N9{lo hi:Option Int}(Qj:∀o i,jY slice false o i=mN [i,o] (jj o i))(R:Rel w.params B H s.heap)(rx:VR s.heap (.tup l) u)(pl:iS vl lo)(pu:iS vu hi)(h:l.length<=16384)(q:Q (.tup (rR l lo hi)) H):
  aE (aD prog w) A (i4 value slice u (.ref s.heap.objs.size)) (p6 w.params B H s Q) E {s with heap:=s.heap.push {cls:=.type "slice",data:=.fields #[vl,vu,.none]}}:=by
 obtain⟨a,vs,As⟩:=qN.mp rx;repeat first|clear l|clear u|clear value|clear Q|clear rx
 obtain rfl:=As.1;have kp:∀o b o',s.heap.get? b=some o'->(s.heap.push o).get? b=some o':=fun o b o' e=>ay _ e;have Oa:gJ (s.heap.push {cls:=.type "slice",data:=.fields #[vl,vu,.none]}) a vs.toArray:=As.2.2.1.keeps (kp _);refine fi (value':=HC) (fun J=>rfl) (subscriptTail_ops (s:={s with heap:=s.heap.push {cls:=.type "slice",data:=.fields #[vl,vu,.none]}}) Oa.typeIs iT.lookup (HW Oa (pe ..) pl pu (As.2.2.2.length▸cQ▸(ae h ⋯)) (fun e=>?_) ?_) (Qj _ _) (fun J=>rfl))
 ·rw[Kx As.2.2.2.length e]at q;exact p6.ext (t:=s.toks) R (kp _) (qN.mpr ⟨a,vs,rfl,As.2.1,Oa,qv.mono (pY.of fun b o J=>kp _ b o) As.2.2.2⟩) q
 ·have k2:∀b o',s.heap.get? b=some o'->((s.heap.push {cls:=.type "slice",data:=.fields #[vl,vu,.none]}).push {cls:=.type "tuple",data:=.seq (rR vs lo hi).toArray}).get? b=some o':=fun b o' e=>ay _ (kp _ b o' e);exact p6.ext (t:=s.toks) R k2 (qN.mpr ⟨_,rR vs lo hi,rfl,(by have:=R.glob.lt;rw[b9];exact f7 (dU this)),⟨_,aJ _ rfl,rfl,0,rfl⟩,qv.mono (pY.of fun b o J=>k2 b o) (As.2.2.2.Al lo hi)⟩) q
theorem Sl(Qj:∀o i,jY slice false o i=mN [i,o] (jj o i))(R:Rel w.params B H s.heap)(rx:VR s.heap x u)(ry:VR s.heap y vl)(rz:VR s.heap z vu)(q:Ar H Q y z x):
  aE (aD prog w) A (i4 value slice u (.ref s.heap.objs.size)) (p6 w.params B H s Q) E {s with heap:=s.heap.push {cls:=.type "slice",data:=.fields #[vl,vu,.none]}}:=by
 induction q using Ar.casesOn with
 |tup e1 e2 h q=>exact N9 Qj R rx (part_of ry e1) (part_of rz e2) h q
 |bytes e1 e2 h q=>obtain⟨b,t,vD⟩:=si.mp rx;obtain rfl:=vD.1;refine fi (value':=HC) (fun J=>rfl) (KBc.slice_K R.fr R.news vD.2.symm (part_of ry e1) (part_of rz e2) (ae h ⋯) (fun h' t' k F N ep=>?_) (Qj _ _) (fun J=>rfl));have WQ:=xE R F N (fun p hp=>hp);rw[ze]at ep;exact p6.ext3 (t:=k) R WQ.1 WQ.2 (si.mpr ⟨_,t',rfl,ep.symm⟩) q
 |lst o e1 e2 h q=>subst rx;obtain⟨vs,il,rl,_⟩:=pJ (R.obj _ _ o);refine fi (value':=HC) (fun J=>rfl) (kmk_slice R.fr R.news il (part_of ry e1) (part_of rz e2) (fun D h' F N lt=>?_) (Qj _ _) (fun J=>rfl) (by rw[aN,rl.length];exact tO h));rw[mG,aN,ze]at N;exact vG R D 0 h' (rl.Al _ _) F N lt q
 |rl o e1 e2 h q=>subst rx;have z:=R.obj _ _ o;obtain⟨vs,il,rl,_⟩:=pJ (show OR w.params s.heap _ (.list _)from⟨_,_,z.1,z.2⟩);refine fi (value':=HC) (fun J=>rfl) (kmk_slice R.fr R.news il (part_of ry e1) (part_of rz e2) (fun D h' F N lt=>?_) (Qj _ _) (fun J=>rfl) (by rw[aN,rl.length];exact tO h));rw[mG,aN,ze]at N;exact vG R D 0 h' (rl.Al _ _) F N lt q
theorem Sn(pk:iS vk (some (-1)))(Qj:∀o i,jY slice false o i=mN [o,i] (jj o i))(R:Rel w.params B H s.heap)(rx:VR s.heap x u)(q:Hs H Q x):
  aE (aD prog w) A (i4 value slice u (.ref s.heap.objs.size)) (p6 w.params B H s Q) E {s with heap:=s.heap.push {cls:=.type "slice",data:=.fields #[.none,.none,vk]}}:=by obtain⟨o,h,q⟩:=q;subst rx;obtain⟨vs,il,rl,_⟩:=pJ (R.obj _ _ o);exact fi (value':=HC) (fun J=>rfl) (krv_lit (zs:=vs.reverse) R.fr R.news il pk (rfl) (fun D h' F N lt=>vG R D 0 h' rl.reverse F N lt q) (Qj _ _) (fun J=>rfl) (aN▸rl.length▸(tO h)))
end
end
section
variable[Inhabited Tg]
def tJ(call:pK):pK:=fun f as H Q J=>call f as H Q ub
section
variable{Θ:Tb}{call:pK}
mutual
theorem qj:∀(x:X) (U:Loc) (H:MH) (Q:QV),wE Θ (tJ call) x U H Q ub=wE Θ call x U H Q ub
 | .bad,_,_,_=>rfl
 | .c v,_,_,_=>rfl
 | .v i,_,_,_=>rfl
 | .bin o a b,_,_,_=>by simp only[Jx,qj a,qj b]
 | .neg a,_,_,_=>by simp only[Jy,qj a]
 | .no a,_,_,_=>by simp only[Qd,qj a]
 | .band a b,_,_,_=>by simp only[Ge,qj a,qj b]
 | .bor a b,_,_,_=>by simp only[Jz,qj a,qj b]
 | .ite t a b,_,_,_=>by simp only[JA,vm t,qj a,qj b]
 | .cmp o a b,_,_,_=>by simp only[JB,qj a,qj b]
 | .uc o p a b c,_,_,_=>by simp only[Gf,qj a,qj b,qj c]
 | .attr a k,_,_,_=>by simp only[Gg,qj a]
 | .call f as,_,_,_=>by simp only[Gh,tW as];rfl
 | .new C as,_,_,_=>by simp only[JC,tW as];rfl
 | .pD a k as,_,_,_=>by simp only[Gi,qj a,tW as];rfl
 | .blt b as,_,_,_=>by simp only[JD,tW as]
 | .sub a i,_,_,_=>by simp only[JE,qj a,qj i]
 | .Al a lo hi,_,_,_=>by simp only[JF,qj a,qj lo,qj hi]
 | .rev a,_,_,_=>by simp only[JG,qj a]
 | .tup as,_,_,_=>by simp only[JH,tW as]
 | .lst as,_,_,_=>by simp only[JI,tW as]
 | .uH ks vs,_,_,_=>by simp only[JJ,tW vs]
 | .comp n cp t src cond e,_,_,_=>by
  simp only[Bv,qj src,(show qx Θ (tJ call) t cond e=qx Θ call t cond e by funext x r H K;unfold qx;simp only[AY t,vm cond,qj e])]
 | .sset n cp t1 s1 t2 s2 e,_,_,_=>by simp only[Gj,qj s1,AY t1,qj s2,AY t2,qj e]
theorem tW:∀(x:Xs) (U:Loc) (H:MH) (Q:List V->MH->Prop),wEs Θ (tJ call) x U H Q ub=wEs Θ call x U H Q ub
 | .nil,_,_,_=>rfl
 | .cons x r,_,_,_=>by simp only[CM,qj x,tW r]
theorem vm:∀(x:X) (U:Loc) (H:MH) (Q:Bool->MH->Prop),wT Θ (tJ call) x U H Q ub=wT Θ call x U H Q ub
 | .bad,_,_,_=>rfl
 | .c v,_,_,_=>rfl
 | .v i,_,_,_=>rfl
 | .bin o a b,_,_,_=>rfl
 | .neg a,_,_,_=>rfl
 | .no a,_,_,_=>by simp only[Qe,vm a]
 | .band a b,_,_,_=>by simp only[Gk,vm a,vm b]
 | .bor a b,_,_,_=>by simp only[JK,vm a,vm b]
 | .ite t a b,_,_,_=>by simp only[JL,vm t,vm a,vm b]
 | .cmp o a b,_,_,_=>by simp only[JM,qj a,qj b]
 | .uc o p a b c,_,_,_=>by simp only[Gm,qj a,qj b,qj c]
 | .attr a k,_,_,_=>rfl
 | .call f as,_,_,_=>by simp only[Nl,tW as];rfl
 | .new C as,_,_,_=>rfl
 | .pD a k as,_,_,_=>by simp only[Nm,qj a,tW as];rfl
 | .blt b as,_,_,_=>by simp only[Rg,tW as]
 | .sub a i,_,_,_=>rfl
 | .Al a lo hi,_,_,_=>rfl
 | .rev a,_,_,_=>rfl
 | .tup as,_,_,_=>rfl
 | .lst as,_,_,_=>rfl
 | .uH ks vs,_,_,_=>rfl
 | .comp n cp t src cond e,_,_,_=>rfl
 | .sset ..,_,_,_=>rfl
theorem AY:∀(x:T) (v:V) (U:Loc) (H:MH) (Q:Loc->MH->Prop),wA Θ (tJ call) x v U H Q ub=wA Θ call x v U H Q ub:=by
 intro x;cases x with
 |v i=>exact fun J J J J=>rfl
 |attr o k=>exact fun J J J J=>by simp only[Gn,qj o]
 |sub o i=>exact fun J J J J=>by simp only[JN,qj o,qj i]
 |tup ts=>exact fun J J J J=>by simp only[Rh,Kz ts]
theorem Kz:∀(x:Ts) (v:List V) (U:Loc) (H:MH) (Q:Loc->MH->Prop),Hv Θ (tJ call) x v U H Q ub=Hv Θ call x v U H Q ub
 | .nil,[],_,_,_=>rfl
 | .nil,_::_,_,_,_=>rfl
 | .cons t ts,[],_,_,_=>rfl
 | .cons t ts,x::xs,_,_,_=>by simp only[CN,AY t,Kz ts]
end
end
def Cfg.tJ(c:Cfg):Cfg:={c with call:=Mine.Internal.tJ c.call}
def E0:EF:=fun J J J J J=>False
theorem Cfg.Ok.tJ{c:Cfg}{A:aU}{W W':Addr->Prop}{Ef:EF}(C:c.Ok A W Ef):c.tJ.Ok A W' E0 where
 hh:=C.hh
 en:=fun J z=>z
 no:=fun z=>z
 kb:=C.kb
 tb:=C.tb
 sm:=C.sm
 main:=C.main
 val:=C.val
 fn:=C.fn
 blt:=C.blt
 ty:=C.ty
 cls:=C.cls
 new:=C.new
 pD:=C.pD
 hu:=C.hu
 call:=fun f as vs H s Q X R r q=>fy (C.call f as vs H s Q ub R r q) fun z s' k=>by
  induction z using fA with
  |error e=>exact(C.no k).elim
  |ok f=>induction f using jv<;>exact k
 init:=fun K Jn f as vs H s Q X R r q=>fy (C.init K Jn f as vs H s Q ub R r q) fun z s' k=>by
  induction z using fA with
  |error e=>exact(C.no k).elim
  |ok f=>induction f using jv<;>exact k
end
section
variable[Inhabited Tg]
noncomputable def xS(ks ns:List (PySem.Str×cw)):List (PySem.Str×cw):=ns.map fun x=>(x.1,if(x.2==.free&&ks.lookup x.1==some .cell)then .cell else x.2)
noncomputable def So:PySem.Str×cw->Option (PySem.Str×Bool)
 |(n,.local)=>some (n,true)
 |(n,.cell)=>some (n,true)
 |(n,.free)=>some (n,false)
 |_=>none
def u6(ns:List (PySem.Str×cw)):List (PySem.Str×Bool):=ns.filterMap So
def xy(Γ:Cx)(ns:List (PySem.Str×cw)):Cx:=⟨u6 ns,xS Γ.kinds ns⟩
noncomputable def sG(pl:List (PySem.Str×Bool)):Nat->List (PySem.Str×Bool)->List (Nat×Nat)
 |_,[]=>[]
 |i,(n,b)::r=>if b then sG pl (i+1) r else match place pl n with
  |some j=>(i,j)::sG pl (i+1) r
  |none=>sG pl (i+1) r
noncomputable def xT:List PySem.Str->Bool
 |[]=>true
 |x::r=> !(r.contains x)&&xT r
theorem uK:∀{l:List PySem.Str},xT l=true->l.Nodup:=by
 intro l;induction l with
 |nil=>exact fun J=>.nil
 |cons x r ih=>exact fun h=>by have h:(!(r.contains x)&&xT r)=true:=h;rw[aR,dT]at h;refine aW.mpr ⟨fun m=>?_,ih h.2⟩;rw[List.contains_eq_mem,decide_eq_false_iff_not]at h;exact h.1 m
def q9(Γ:Cx)(scope:iH):Bool:=
 scope.kind==.function&&xT (scope.names.map ar)&&(scope.names.all fun x=>qX x.1)&&
 (scope.names.all fun(n,k)=>if k==.free then(place Γ.pl n).isSome&&(Γ.kinds.lookup n==some .cell||Γ.kinds.lookup n==some .free)else true)
noncomputable def zf(env:Env):List (PySem.Str×cw)->List (PySem.Str×Addr)->List (PySem.Str×Addr)
 |[],acc=>acc
 |(n,k)::r,acc=>if k==.free then zf env r ((n,(env.cells.lookup n).getD 0)::acc)else zf env r acc
theorem wt(h:∀n,(n,NameKind.free)∈scope.names->(env.cells.lookup n).isSome=true):closureFor scope env=cL (zf env scope.names []):=by
 have gen:∀(f:PySem.Str×cw->List (PySem.Str×Addr)->Sem (ForInStep (List (PySem.Str×Addr)))),(∀n k cs,f (n,k) cs=if k==.free then(do let a <-oi env n;cL (.yield ((n,a)::cs)))else cL (.yield cs))->
   ∀(ns:List (PySem.Str×cw)) (acc:List (PySem.Str×Addr)),(∀n,(n,NameKind.free)∈ns->(env.cells.lookup n).isSome=true)->forIn ns acc f=(cL (zf env ns acc):Sem _):=by
  intro f hf ns
  induction ns with
  |nil=>intro acc _;rw[List.forIn_nil];rfl
  |cons x r ih=>
   obtain⟨n,k⟩:=x;intro acc hn;rw[jN,hf];unfold zf;split
   ·rename_i hk;obtain rfl:k=.free:=by simpa using hk
    obtain⟨a,ha⟩:=gj.mp (hn n (.head _));have:oi env n=cL a:=by unfold oi;rw[ha]
    refine this▸?_;refine ha▸?_;exact ih _ (fun m hm=>hn m (.tail _ hm))
   ·simp only[pure_bind];exact ih _ (fun m hm=>hn m (.tail _ hm))
 show(forIn scope.names ([]:List (PySem.Str×Addr)) (fun x cs=>match x with|(name,kind)=>if(kind==NameKind.free)=true then(do let a <-oi env name;cL (ie ((name,a)::cs)))else cL (ie cs))>>=fun cs=>cL cs)=_;rw[gen _ (fun n k cs=>rfl) _ _ h];rfl
theorem xU(ns:List (PySem.Str×cw)):∀acc:List (PySem.Str×Addr),(zf env ns acc).lookup x=if(x,NameKind.free)∈ns then some ((env.cells.lookup x).getD 0)else acc.lookup x:=by
 induction ns with
 |nil=>exact fun acc=>(if_neg (fun z=>nomatch z)).symm
 |cons y r ih=>
  intro acc;obtain⟨n,k⟩:=y;show List.lookup x (if k==.free then zf env r ((n,(env.cells.lookup n).getD 0)::acc)else zf env r acc)=_;by_cases hk:(k==.free)=true
  ·rw[if_pos hk,ih];obtain rfl:k=.free:=by simpa using hk
   by_cases hx:(x,NameKind.free)∈r
   ·rw[if_pos hx,if_pos (.tail _ hx)]
   ·rw[if_neg hx,dE];by_cases e:x=n
    ·subst e;rw[if_pos (.head _),beq_self_eq_true]
    ·rw[beq_false_of_ne e,if_neg fun z=>(aA.mp z).elim (fun z=>e (congrArg ar z)) hx]
  ·rw[if_neg hk,ih];simp only[show(x,NameKind.free)∈(n,k)::r↔(x,NameKind.free)∈r from⟨fun z=>(aA.mp z).resolve_left fun e=>hk (beq_iff_eq.mpr (congrArg cf e).symm),.tail _⟩]
theorem uy(ns:List (PySem.Str×cw)):∀(n:Nat) (acc:List (PySem.Str×Addr)),eN n ns acc=eN n ns []++acc:=by
 induction ns with
 |nil=>exact fun J J=>rfl
 |cons y r ih=>
  intro n acc;rw[eN,eN];cases y.2==.cell with
  |true=>exact(ih _ _).trans ((congrArg (_++·) rfl).trans ((ax _ [_] acc).symm.trans (congrArg (· ++acc) (ih _ [_]).symm)))
  |false=>exact ih n acc
theorem qU(ns:List (PySem.Str×cw)):∀(n:Nat) (acc:List (PySem.Str×Addr)),((x,NameKind.cell)∈ns->∃c,(eN n ns acc).lookup x=some c)/\((x,NameKind.cell)∉ns->(eN n ns acc).lookup x=acc.lookup x):=by
 induction ns with
 |nil=>exact fun J J=>⟨fun h=>(nomatch h),fun J=>rfl⟩
 |cons y r ih=>
  intro n acc;obtain⟨y,k⟩:=y;rw[eN];by_cases hk:(k==.cell)=true
  ·rw[if_pos hk];obtain rfl:k=.cell:=by simpa using hk
   have z:=ih (n+1) ((y,n)::acc);rw[dE]at z;by_cases e:x=y
   ·subst e;rw[beq_self_eq_true]at z;exact⟨fun J=>(Classical.em _).elim z.1 fun g=>⟨n,z.2 g⟩,fun h=>absurd (.head _) h⟩
   ·have z:=(beq_false_of_ne e)▸z;exact⟨fun h=>z.1 ((aA.mp h).resolve_left fun q=>e (congrArg ar q)),fun h=>z.2 fun q=>h (.tail _ q)⟩
  ·rw[if_neg hk];exact⟨fun h=>(ih n acc).1 ((aA.mp h).resolve_left fun q=>hk (beq_iff_eq.mpr (congrArg cf q).symm)),fun h=>(ih n acc).2 fun q=>h (.tail _ q)⟩
theorem wH(a b:List (PySem.Str×Addr)):(a++b).lookup x=match a.lookup x with|some c=>some c|none=>b.lookup x:=by
 induction a with
 |nil=>rfl
 |cons y a ih=>
  rw[bT,dE,dE];cases x==y.1 with
  |true=>rfl
  |false=>exact ih
theorem p7{ns:List (PySem.Str×cw)}:(ns.map ar).Nodup->(x,k)∈ns->ns.lookup x=some k:=by
 induction ns with
 |nil=>exact fun J h=>nomatch h
 |cons y r ih=>
  intro nd h;rw[dE];rcases aA.mp h with e|e
  ·rw[<-e,beq_self_eq_true]
  ·rw[beq_false_of_ne fun z:x=y.1=>(aW.mp nd).1 (z▸(aY.mpr ⟨_,e,rfl⟩))];exact ih (aW.mp nd).2 e
theorem Dh(ns:List (PySem.Str×cw)):(xS ks ns).lookup x=(ns.lookup x).map fun k=>if(k==.free&&ks.lookup x==some .cell)then .cell else k:=by
 induction ns with
 |nil=>rfl
 |cons y r ih=>
  obtain⟨y,k⟩:=y;rw[(show xS ks ((y,k)::r)=(y,if(k==.free&&ks.lookup y==some .cell)then .cell else k)::xS ks r from rfl),dE,dE,ih];by_cases e:x=y
  ·subst e;rw[beq_self_eq_true];rfl
  ·rw[beq_false_of_ne e]
theorem EU(l:List (PySem.Str×Bool)):∀(k i j:Nat),(i,j)∈sG pl k l->k<=i/\∃n,l[i - k]? =some (n,false)/\place pl n=some j:=by
 induction l with
 |nil=>exact fun J J J h=>nomatch h
 |cons y r ih=>
  obtain⟨n,b⟩:=y;intro k i j h;have up:(i,j)∈sG pl (k+1) r->k<=i/\∃n',((n,b)::r)[i - k]? =some (n',false)/\place pl n'=some j:=fun z=>⟨bC (ih _ i j z).1,(ih _ i j z).2.imp fun n' q=>⟨Z.ss (ih _ i j z).1▸q.1,q.2⟩⟩;induction b with
  |true=>exact up h
  |false=>
   have h:(i,j)∈(match place pl n with|some j=>(k,j)::sG pl (k+1) r|none=>sG pl (k+1) r):=h;cases hj:place pl n with
   |none=>have h:=hj▸h;exact up h
   |some j'=>
    rw[hj]at h;rcases aA.mp h with e|e
    ·cases e;exact⟨aF _,n,gh k▸rfl,hj⟩
    ·exact up e
theorem Di:∀{r:List V} {i:Nat} {y:V},¬i<r.length->vq r i y=r:=by
 intro r;induction r with
 |nil=>exact @fun J J J=>rfl
 |cons a r v8=>
  intro z2;induction z2 with
  |zero=>exact @fun J h=>absurd (cH _) h
  |succ i=>exact @fun y h=>congrArg (a::·) (v8 fun z=>h (jo z))
theorem EV(m:List (Nat×Nat)):∀r:Loc,getL (yN n m U r) i=getL r i\/∃j,(i,j)∈m/\getL (yN n m U r) i=getL U j:=by
 induction m with
 |nil=>exact fun r=>.inl rfl
 |cons y m ih=>
  intro r;show getL (yN n m U (vq r y.1 (getL U y.2))) i=_\/∃j,_/\getL (yN n m U (vq r y.1 (getL U y.2))) i=_;rcases ih (vq r y.1 (getL U y.2))with h|⟨j,h1,h2⟩
  ·rw[h];by_cases e:i=y.1
   ·subst e;by_cases hl:y.1<r.length
    ·exact .inr ⟨y.2,.head _,sR hl⟩
    ·exact .inl (by rw[Di hl])
   ·exact .inl (ui e)
  ·exact .inr ⟨j,.tail _ h1,h2⟩
theorem HX(m:List (Nat×Nat)):∀r:Loc,(yN n m U r).length=r.length:=by
 induction m with
 |nil=>exact fun r=>rfl
 |cons y m ih=>exact fun r=>(ih _).trans vC
theorem Dj:∀(n i:Nat),getL (aK n V.rG) i=.rG:=by
 intro n;induction n with
 |zero=>exact fun J=>rfl
 |succ n v8=>
  intro z2;induction z2 with
  |zero=>exact rfl
  |succ i=>exact v8 i
end
section
variable[Inhabited Tg]
theorem BH(h:(x,b)∈u6 ns):(b=true/\((x,NameKind.local)∈ns\/(x,NameKind.cell)∈ns))\/(b=false/\(x,NameKind.free)∈ns):=by
 obtain⟨⟨n,k⟩,hm,e⟩:=eZ.mp h;repeat first|clear ns|clear h
 induction k using mi;case «local»=>cases au (e:some (n,true)=some (x,b));exact .inl ⟨rfl,.inl hm⟩
 case cell=>cases au (e:some (n,true)=some (x,b));exact .inl ⟨rfl,.inr hm⟩
 case free=>cases au (e:some (n,false)=some (x,b));exact .inr ⟨rfl,hm⟩
 all_goals exact Z.nS (e:none=some (x,b))
theorem AZ(ns:List (PySem.Str×cw)):((u6 ns).map ar).Sublist (ns.map ar):=by
 induction ns with
 |nil=>exact .slnil
 |cons y r ih=>obtain⟨n,k⟩:=y;induction k using mi<;>first|exact ih.cons₂ n|exact ih.cons n
theorem A0{l:List (PySem.Str×α)}:(l.map ar).Nodup->∀{i j:Nat},l[i]? =some (x,b)->l[j]? =some (x,c)->i=j:=by
 induction l with
 |nil=>exact fun J J J h=>nomatch h
 |cons y r ih=>
  intro nd i j h1 h2;have nd:=aW.mp nd;have mem:∀{i:Nat} {b:α},r[i]? =some (x,b)->y=(x,c)->False:=fun h e=>nd.1 (e▸(aY.mpr ⟨_,cv h,rfl⟩));cases i with
  |zero=>
   induction j with
   |zero=>rfl
   |succ j=>exact(nd.1 (by rw[au h1];exact aY.mpr ⟨_,cv h2,rfl⟩)).elim
  |succ i=>
   induction j with
   |zero=>exact(mem h1 (au h2)).elim
   |succ j=>exact congrArg _ (ih nd.2 h1 h2)
section
variable{c:Cfg}{A:aU}{W:Addr->Prop}{Ef:EF}
theorem sJ(R:Rel P B H h)(k:∀b o,h.get? b=some o->h'.get? b=some o)(hb:h.objs.size<=b):¬Own H h' b/\b≠LL/\B.get b=none:=by
 refine⟨fun x=>absurd (R.Jp (BE R k x)) (b8.mpr hb),fun z=>?_,?_⟩
 ·have:=R.glob.lt;have this:=z▸this;exact absurd this (b8.mpr hb)
 ·cases e:B.get b with
  |none=>rfl
  |some o=>exact absurd (br (R.base _ _ e).1) (b8.mpr hb)
def uz(L:Addr)(ns:List (PySem.Str×cw))(cells:List (PySem.Str×Addr)):Addr->Prop:=fun b=>b=L\/∃x,(x,NameKind.cell)∈ns/\cells.lookup x=some b
noncomputable def qs(h:bp)(ns:List (PySem.Str×cw)):bp:=pushCells (h.push {cls:=.type "dict",data:=.dict #[]}) ns
def pW(h:bp)(env:Env)(ns:List (PySem.Str×cw)):List (PySem.Str×Addr):=eN (h.objs.size+1) ns (zf env ns [])
theorem uA:∀b o,h.get? b=some o->(qs h ns).get? b=some o:=fun b o e=>jO ns _ b o (ay _ e)
theorem ym
  (h:Q {scope:=scope,locals:=s.heap.objs.size,globals:=globals,cells:=eN (s.heap.objs.size+1) scope.names cl,qual:=qual,func:=none,code:=env.code,frame:=env.frame,builtins:=env.builtins} {s with heap:=qs s.heap scope.names}):
  aE M A (mU scope globals cl [] qual none .none (some env)) Q E s:=by simp only[mU,Option.isSome_some,if_true];refine af (wpAny_alloc ?_);refine af (wpAny_layCells _ (fun name kind cells=>by cases hkc:kind==NameKind.cell<;>simp[hkc]) _ _ _ _ ?_);rw[show({s with heap:=s.heap.push {cls:=.type "dict",data:=.dict #[]}}:Shared).heap.objs.size=s.heap.objs.size+1 from b9 ..];exact af (az (az h))
theorem yG{H:MH}{s:Shared}(V:qG env Γ)(R:Rel c.w.params c.B H s.heap)(F:pU W c.B H s.heap env Γ.pl U)(t:q9 Γ scope=true)
  (e1:cenv.scope=km scope env)(e2:cenv.locals=s.heap.objs.size)(e3:cenv.cells=pW s.heap env scope.names)(e4:cenv.globals=env.globals)(e5:cenv.builtins=env.builtins):
  (∀n,(n,NameKind.free)∈scope.names->(env.cells.lookup n).isSome=true)/\qG cenv (xy Γ scope.names)/\
  pU (uz s.heap.objs.size scope.names (pW s.heap env scope.names)) c.B H (qs s.heap scope.names) cenv (u6 scope.names) (wb (u6 scope.names).length (sG Γ.pl 0 (u6 scope.names)) U):=by
 simp only[q9,aR,beq_iff_eq,bS]at t;obtain⟨⟨⟨t1,t2⟩,t3⟩,t4⟩:=t;have nd:=uK t2;obtain⟨m,NU⟩:=F.pl;have pl:=NU.2;have fr:∀n,(n,NameKind.free)∈scope.names->∃j b cc ov,place Γ.pl n=some j/\Γ.pl[j]? =some (n,b)/\(env.kindOf n=some .cell\/env.kindOf n=some .free)/\env.cells.lookup n=some cc/\s.heap.IsCell cc ov/\(getL U j≠.rG->∃v,ov=some v/\VR s.heap (getL U j) v):=by
  intro n hn;have:=t4 _ hn;simp only[beq_self_eq_true,if_true,aR,my,beq_iff_eq]at this;obtain⟨a1,a2⟩:=this;obtain⟨j,hj⟩:=gj.mp a1;obtain⟨b,hb⟩:=tc hj;have kk:env.kindOf n=Γ.kinds.lookup n:=by unfold Env.kindOf;rw[V.names]
  rcases pl j n b hb with⟨p1,_⟩|⟨cc,ov,p1,p2,_,p4,p5⟩
  ·rw[kk]at p1;rcases a2 with a2|a2<;>rw[a2]at p1<;>exact nomatch p1
  ·exact⟨j,b,cc,ov,hj,hb,p1.imp id (fun z=>z.1),p2,p4,p5⟩
 have hk:∀b o,s.heap.get? b=some o->(qs s.heap scope.names).get? b=some o:=uA;have Oc:=cellsFrom_ok scope.names (s.heap.push {cls:=.type "dict",data:=.dict #[]}) (s.heap.objs.size+1) [] ⟨fun _ _ hm=>(nomatch hm),lS⟩ (by rw[b9];exact aF _);rw[b9]at Oc;have lk:∀x cc,(pW s.heap env scope.names).lookup x=some cc->((x,NameKind.cell)∈scope.names/\(x,cc)∈eN (s.heap.objs.size+1) scope.names [])\/((x,NameKind.free)∈scope.names/\env.cells.lookup x=some cc):=by
  intro x cc h;unfold pW at h;rw[uy,wH]at h;split at h
  ·rename_i c' KA;obtain rfl:=au h;refine .inl ⟨?_,mem_of_lookup KA⟩;by_cases z:(x,NameKind.cell)∈scope.names
   ·exact z
   ·rw[(qU scope.names _ []).2 z]at KA;exact Z.nS KA
  ·rw[xU]at h;split at h
   ·rename_i hf;obtain⟨j,b,c2,ov,_,_,_,p2,_⟩:=fr x hf;rw[p2]at h;exact .inr ⟨hf,by rw[p2];simpa using h⟩
   ·exact Z.nS h
 have lkf:∀x cc,(x,NameKind.free)∈scope.names->env.cells.lookup x=some cc->(pW s.heap env scope.names).lookup x=some cc:=by
  intro x cc hf hc;unfold pW;rw[uy,wH];have z:(x,NameKind.cell)∉scope.names:=fun z=>by have h1:=p7 nd z;rw[p7 nd hf]at h1;exact nomatch h1
  rw[(qU scope.names _ []).2 z];show(zf env scope.names []).lookup x=some cc;rw[xU,if_pos hf,hc];rfl
 have names:cenv.scope.names=xS Γ.kinds scope.names:=by
  rw[e1];unfold km xS;dsimp only;refine iy fun x hx=>?_;have kk:env.kindOf x.1=Γ.kinds.lookup x.1:=by unfold Env.kindOf;rw[V.names]
  simp only[V.kind,beq_self_eq_true,Bool.and_true,kk];cases x.2==.free&&Γ.kinds.lookup x.1==some .cell<;>rfl
 have Qk:∀x k,(x,k)∈scope.names->cenv.kindOf x=some (if(k==NameKind.free&&Γ.kinds.lookup x==some .cell)then .cell else k):=fun x k hx=>by unfold Env.kindOf;rw[names,Dh,p7 nd hx];rfl
 have szL:(s.heap.push {cls:=.type "dict",data:=.dict #[]}).get? s.heap.objs.size=some {cls:=.type "dict",data:=.dict #[]}:=aJ _ rfl;have nsL:(qs s.heap scope.names).Ns cenv.locals (fun _=>none):=by exact e2▸((Heap.Ns.new s.heap (.type "dict")).keeps (jO _ _))
 refine⟨fun n hn=>?_,⟨by rw[e1];exact t1,names,by refine e4▸?_;exact V.glob,by rw[e5];exact V.blt⟩,?_⟩
 ·obtain⟨j,b,cc,ov,_,_,_,p2,_⟩:=fr n hn;rw[p2];rfl
 refine⟨by rw[e1];exact t1,by unfold wb;rw[HX,dJ],fun i j x b b' h1 h2=>A0 (nd.sublist (AZ _)) h1 h2,fun i x b h=>?_,⟨fun _=>none,nsL,fun i x b h=>?_⟩,fun x y cc h1 h2=>?_,fun b hb=>?_,fun b hb=>?_⟩
 ·rcases BH (cv h)with⟨_,z|z⟩|⟨_,z⟩<;>exact t3 _ z
 ·have val:∀y,y=getL (wb (u6 scope.names).length (sG Γ.pl 0 (u6 scope.names)) U) i->y=.rG\/(b=false/\∃j,place Γ.pl x=some j/\y=getL U j):=by
   rintro y rfl;unfold wb;rcases EV (n:=(u6 scope.names).length) (U:=U) (i:=i) (sG Γ.pl 0 (u6 scope.names)) (aK (u6 scope.names).length .rG)with q|⟨j,q1,q2⟩
   ·exact .inl (by rw[q,Dj])
   ·obtain⟨_,n,WR⟩:=EU _ _ _ _ q1;have q3:=WR.1;rw[oj,h]at q3;cases q3;exact .inr ⟨rfl,j,WR.2,q2⟩
  have vv:=val _ rfl;rcases BH (cv h)with⟨rfl,z|z⟩|⟨rfl,z⟩
  ·rcases vv with vv|⟨vv,_⟩
   ·refine .inl ⟨by rw[Qk x _ z];rfl,fun _=>.inl e2,fun q=>absurd vv q⟩
   ·cases vv
  ·rcases vv with vv|⟨vv,_⟩
   ·obtain⟨cc,hc⟩:=(qU (x:=x) scope.names (s.heap.objs.size+1) (zf env scope.names [])).1 z;have hc:(pW s.heap env scope.names).lookup x=some cc:=hc;rcases lk x cc hc with⟨_,q⟩|⟨q,_⟩
    ·exact .inr ⟨cc,none,.inl (by rw[Qk x _ z];rfl),by rw[e3];exact hc,fun _=>.inr ⟨x,z,hc⟩,(Oc.empty _ _ q).1,fun q=>absurd vv q⟩
    ·have h1:=p7 nd z;rw[p7 nd q]at h1;exact nomatch h1
   ·cases vv
  ·obtain⟨j,b,cc,ov,p0,_,p1,p2,p3,p4⟩:=fr x z;refine .inr ⟨cc,ov,?_,by rw[e3];exact lkf x cc z p2,(fun q=>by cases q),p3.keeps hk,fun q=>?_⟩
   ·rw[Qk x _ z];by_cases w:Γ.kinds.lookup x=some .cell
    ·left;simp[w]
    ·right;exact⟨by simp[w],rfl⟩
   ·rcases vv with vv|⟨_,j',q1,q2⟩
    ·exact absurd vv q
    ·rw[p0]at q1;obtain rfl:=au q1;rw[q2]at q ⊢;obtain⟨v,RE⟩:=p4 q;exact⟨v,RE.1,RE.2.mono (pY.of fun b o _=>hk b o)⟩
 ·rw[e3]at h1 h2;rcases lk _ _ h1 with⟨_,q1⟩|⟨_,q1⟩<;>rcases lk _ _ h2 with⟨_,q2⟩|⟨_,q2⟩
  ·exact name_of_addr Oc.apart q1 q2
  ·obtain⟨⟨o,eo⟩,_⟩:=F.own cc (.inr ⟨_,q2⟩);exact absurd (br eo) (b8.mpr (cq (Oc.empty _ _ q1).2))
  ·obtain⟨⟨o,eo⟩,_⟩:=F.own cc (.inr ⟨_,q1⟩);exact absurd (br eo) (b8.mpr (cq (Oc.empty _ _ q2).2))
  ·exact F.apart _ _ _ q1 q2
 ·rw[e2,e3]at hb;rcases hb with rfl|⟨x,hx⟩
  ·exact⟨⟨_,jO _ _ _ _ szL⟩,sJ R hk (aF _)⟩
  ·rcases lk _ _ hx with⟨_,q⟩|⟨_,q⟩
   ·obtain⟨⟨o,eo,_⟩,ge⟩:=Oc.empty _ _ q;exact⟨⟨o,eo⟩,sJ R hk (cq ge)⟩
   ·obtain⟨⟨o,eo⟩,Dk⟩:=F.own b (.inr ⟨_,q⟩);exact⟨⟨o,hk _ _ eo⟩,fun z=>Dk.1 (BE R hk z),Dk.2.1,Dk.2.2⟩
 ·rw[e2,e3];rcases hb with rfl|⟨x,_,hx⟩
  ·exact .inl rfl
  ·exact .inr ⟨x,hx⟩
end
end
section
variable[Inhabited Tg]
theorem Rel.adopt(R:Rel P B H h)(hn:¬Own H h D)(hB:B.get D=none)(hg:D≠LL)(hr:OR P h D o)(n:o.rP):Rel P B (H.upd D o) h:=by
 have hi:∀b C f,(H.upd D o) b=some (.inst C f)->b≠D/\H b=some (.inst C f):=fun b C f e=>by
  unfold MH.upd at e;split at e
  ·obtain rfl:=au e;exact n.elim
  ·exact⟨by assumption,e⟩
 have ow:∀b,b≠D->Own (H.upd D o) h b->Own H h b:=fun b hb y=>by
  rcases y with y|⟨c,C,f,ec,q⟩
  ·exact .inl (by unfold MH.upd at y;rwa[if_neg hb]at y)
  ·exact .inr ⟨c,C,f,(hi _ _ _ ec).2,q⟩
 refine⟨fun b x e=>?_,fun b x e=>⟨(R.base b x e).1,fun y=>(R.base b x e).2 (ow b (fun z=>by rw[z,hB]at e;exact Z.nS e) y)⟩,R.glob,fun x=>R.uT (ow _ (Ne.symm hg) x),R.Ap,fun b C f d e q=>?_,fun b c C f C' f' d e1 e2 q1 q2=>R.inj b c C f C' f' d (hi _ _ _ e1).2 (hi _ _ _ e2).2 q1 q2,fun b C f e=>R.good b C f (hi _ _ _ e).2⟩
 ·unfold MH.upd at e;split at e
  ·rename_i z;subst z;obtain rfl:=au e;exact hr
  ·exact R.obj b x e
 ·obtain⟨h1,h2⟩:=hi _ _ _ e;unfold MH.upd;split
  ·rename_i z;subst z;exact absurd (.inr ⟨b,C,f,h2,q⟩) hn
  ·exact R.sep b C f d h2 q
section
variable{c:Cfg}{A:aU}{W:Addr->Prop}{Ef:EF}
theorem Off.WT(O:Off c W H s I)(R:Rel c.w.params c.B H s.heap)(k:∀b o,b≠I->b≠LL->s.heap.get? b=some o->h'.get? b=some o)(kg:h'.Ns LL c.B.mg):
  Rel c.w.params c.B H h'/\Nx (fun b=>b=I) H s H {s with heap:=h',toks:=tk}/\¬Own H h' I:=by
 obtain⟨o,xb⟩:=O.tp;have st:pY s.heap h':=fun a o' g e' t=>k a o' (fun z=>by subst z;rw[xb.1]at e';obtain rfl:=au e';exact xb.2 t) g e';have gen:∀B:Bs,Rel c.w.params B H s.heap->B.get I=none->h'.Ns LL B.mg->Rel c.w.params B H h':=fun B R hB kg=>R.Jq (fun b o' x e'=>k b o' (fun z=>O.rM (z▸x)) (fun z=>R.uT (z▸x)) e') st (fun b o' e' q=>k b o' (fun z=>by rw[z,hB]at e';exact Z.nS e') (fun z=>by rw[z,R.Ap]at e';exact Z.nS e') q) kg;refine⟨gen c.B R O.nB kg,Nx.qR (gen _ (R.max _) (by unfold CI;dsimp only;rw[if_pos (.inr (.inl rfl))]) kg) st,fun x=>?_⟩;rcases x with x|⟨a,C,f,ea,o',e',q⟩
 ·exact O.rM (.inl x)
 ·obtain⟨ob,eo⟩:=(R.obj _ _ ea).there;rw[k a ob (fun z=>O.rM (.inl (z▸ea▸(fun q=>by exact nomatch q)))) (fun z=>R.uT (z▸.inl (ea▸(fun q=>by exact nomatch q)))) eo]at e';obtain rfl:=au e';exact O.rM (.inr ⟨a,C,f,ea,_,eo,q⟩)
theorem WU(R:Rel P B H h)(g:a≠LL)(eo:h.get? a=some ob):jV rh LL h ((a,ob)::uX a h):=fun p hp=>by
 rcases aA.mp hp with rfl|hp
 ·exact⟨eo,g,tT _⟩
 ·exact R.news p (e8.mp hp).1
def compTurn(c:Cfg)(t:T)(cond e:X):V->Loc->MH->(Loc->Option V->MH->Prop)->Prop:=fun x r H K=>
 wA c.Θ c.call t x r H (fun r' H2=>wT c.Θ c.call cond r' H2 (fun b H3=>qM b (wE c.Θ c.call e r' H3 (fun v H4=>K r' (some v) H4) ub) (K r' none H3)) ub) ub
theorem BI(t:T)(cond e:X):compTurn c t cond e=compTurn c.tJ t cond e:=by funext x r H K;simp only[compTurn,Cfg.tJ,AY,vm,qj]
def u7(c:Cfg)(A:aU)(W:Addr->Prop)(Ef:EF)(Γ:Cx)(ifs:List Expr)(cond:X):Prop:=(ifs=[]/\cond=.c (.bool true))\/∃e,ifs=[e]/\yV c A W Ef Γ e cond
theorem KC{cond:X}(K:u7 c A W Ef Γ ifs cond){X:QE}(V:qG env Γ)(R:Rel c.w.params c.B H s.heap)(F:pU W c.B H s.heap env Γ.pl U)
  (q:wT c.Θ c.call cond U H Q X):aE (aD c.prog c.w) A (forIn ifs true fun c r=>if r=true then do let ok <-isTrue c env (fE c env);cL (ie ok)else cL (ie r)) (Qg c.w.params c.B H s Q) (Ef H s X) s:=by
 rcases K with⟨rfl,rfl⟩|⟨e,rfl,a⟩
 ·cases (q:rI _ _)with
  |bool q=>exact az ⟨H,R,Nx.refl _ _ _,q.1 rfl⟩
 ·rw[jN,if_pos rfl];refine af (af (yz (a env U H s Q X V R F q) fun b s1 H1 R1 N1 q1=>?_));refine az ?_;exact az ⟨H1,R1,N1,q1⟩
def uL(W:Addr->Prop)(I D:Addr):Addr->Prop:=fun b=>(W b\/b=I)\/b=D
inductive AccAt(c:Cfg)(W:Addr->Prop)(H:MH)(s:Shared)(D:Addr)(acc:List V):Prop where|mk (O:Off c W H s D) (vs:List ai) (n:Nat) (e:s.heap.get? D=some (listOf (c9 vs) n)) (r:qv s.heap acc vs)
theorem AccAt.next{X:Addr->Prop}(K:AccAt c W H s D acc)(nX:¬X D)(N:Nx X H s H' s'):AccAt c W H' s' D acc:=by obtain⟨O,vs,n,e,r⟩:=K;exact⟨⟨(N.keep D _ O.ng nX e O.rM).2,O.nB,O.ng,⟨_,(N.keep D _ O.ng nX e O.rM).1,qq rfl ⋯ ⋯⟩⟩,vs,n,(N.keep D _ O.ng nX e O.rM).1,r.mono N.qb⟩
theorem Off.next{X:Addr->Prop}(O:Off c W H s D)(nX:¬X D)(N:Nx X H s H' s'):Off c W H' s' D:=by obtain⟨o,xb⟩:=O.tp;exact⟨(N.keep D _ O.ng nX xb.1 O.rM).2,O.nB,O.ng,_,(N.keep D _ O.ng nX xb.1 O.rM).1,xb.2⟩
inductive af8(c:Cfg)(W:Addr->Prop)(I D:Addr)(H0:MH)(s0:Shared)(env:Env)(Γ:List (PySem.Str×Bool))(At:Nat->bp->Prop)(l:List Mine.Internal.V)(f:List Mine.Internal.V->List Mine.Internal.V->Loc->MH->(List V->MH->Prop)->Prop)(K:List V->MH->Prop)(k:Nat)(s':Shared):Prop where
 |mk (qp:Loc) (H':MH) (acc:List V) (i:Nat) (e:k=l.length - i) (R:Rel c.w.params c.B H' s'.heap) (N:Nx (uL W I D) H0 s0 H' s') (F:pU W c.B H' s'.heap env Γ qp) (O:Off c W H' s' I) (a:AccAt c W H' s' D acc) (la:acc.length<=i) (at_:At i s'.heap) (hi:i<=l.length) (q:f (l.drop i) acc qp H' K)
theorem HY(C:c.Ok A W E0){ok:MH->Prop}{tg elt iter:Expr}{ifs:List Expr}(IT:Iter c A l ok tg I At){cond e:X}
  (a1:yE c A W E0 Γ tg t)(a2:u7 c A W E0 Γ ifs cond)(a3:qK c A W E0 Γ elt e)(Cz:∀v,dy tg (.ref I) v=cL ())
  {K:List V->MH->Prop}(V:qG env Γ)(hI:s0.heap.get? I=none)(hD:s0.heap.get? D=none)(Er:∀b,(b=env.locals\/∃x,env.cells.lookup x=some b)->W b\/∃o,s0.heap.get? b=some o)(Je:I≠D)(Od:¬W I)(U6:¬W D)(lz:l.length<=pq)
  (fin:∀s' qp H' vs,Rel c.w.params c.B H' s'.heap->Nx (uL W I D) H0 s0 H' s'->pU W c.B H' s'.heap env Γ.pl qp->AccAt c W H' s' D vs->K vs H'->RR (.ok .next) s')
  (R:Rel c.w.params c.B H s.heap)(F:pU W c.B H s.heap env Γ.pl U)(N0:Nx (uL W I D) H0 s0 H s)(hO:Off c W H s I)(hA:AccAt c W H s D [])(h0:At 0 s.heap)(q:sF (compTurn c t cond e) ok l [] U H K):
  eB (aD c.prog c.w) A (.compLoop (.ListComp elt [⟨tg,iter,ifs,0⟩] scope pos) 0 (.ref I) (.ref D) env) RR s:=by
 have wI:∀{H1 s1 H2 s2},Nx (fun b=>b=I) H1 s1 H2 s2->Nx (uL W I D) H1 s1 H2 s2:=fun N=>N.weak fun J z=>.inl (.inr z);have wD:∀{H1 s1 H2 s2},Nx (fun b=>b=D) H1 s1 H2 s2->Nx (uL W I D) H1 s1 H2 s2:=fun N=>N.weak fun J z=>.inr z;have wW:∀{H1 s1 H2 s2},Nx W H1 s1 H2 s2->Nx (uL W I D) H1 s1 H2 s2:=fun N=>N.weak fun J z=>.inl (.inl z);refine codeAny_compLoop_tests (af8 c W I D H0 s0 env Γ.pl At l (sF (compTurn c t cond e) ok) K) ?_ l.length ⟨U,H,[],0,rfl,R,N0,F,hO,hA,bW _,h0,bW _,q⟩ Cz;rintro k s' ⟨qp,H',acc,i,rfl,R',N',F',O',K',la,at',hi,q'⟩;have fI:∀b,(b=env.locals\/∃x,env.cells.lookup x=some b)->¬b=I:=fun b hb z=>by
  subst z;rcases Er b hb with w|⟨o,e⟩
  ·exact Od w
  ·rw[hI]at e;exact Z.nS e
 have fD:∀b,(b=env.locals\/∃x,env.cells.lookup x=some b)->¬b=D:=fun b hb z=>by
  subst z;rcases Er b hb with w|⟨o,e⟩
  ·exact U6 w
  ·rw[hD]at e;exact Z.nS e
 by_cases yZ:i<l.length
 ·have q':=(dK yZ)▸q';obtain⟨Wy,q'⟩:=q';refine IT.item i l[i] H' s' _ _ (bc yZ) at' R' Wy fun v h' tk rv Wz k' go=>?_;obtain⟨R1,N1,ZY⟩:=O'.step (tk:=tk) R' k';have F1:pU W c.B H' h' env Γ.pl qp:=F'.next (s':={s' with heap:=h',toks:=tk}) fI N1;have O1:Off c W H' {s' with heap:=h',toks:=tk} I:=⟨ZY,O'.nB,O'.ng,Wz⟩;have K1:=K'.next (fun z=>Je z.symm) N1;have eg:fv tg env v=(dy tg (.ref I) v>>=fun J=>fv tg env v):=by rw[Cz];rfl
  show aE _ _ (fv tg env v) _ _ _;rw[eg];refine af (go _ _ fun yu C5 WA=>?_);obtain⟨R2,N2,no2⟩:=O1.step (tk:=tk) R1 WA;obtain⟨oI,eI,nI⟩:=IT.there _ _ C5;have F2:pU W c.B H' yu env Γ.pl qp:=pU.next (s:={s' with heap:=h',toks:=tk}) (s':={s' with heap:=yu,toks:=tk}) F1 fI N2;have K2:=AccAt.next (s:={s' with heap:=h',toks:=tk}) (s':={s' with heap:=yu,toks:=tk}) K1 (fun z=>Je z.symm) N2;have O2:Off c W H' {s' with heap:=yu,toks:=tk} I:=⟨no2,O'.nB,O'.ng,oI,eI,nI⟩;have Na:=(N'.trans (wI N1)).trans (wI N2);refine aB (a1 env qp H' {s' with heap:=yu,toks:=tk} l[i] v _ ub V R2 F2 (rv.mono N2.qb) q') (fun J s3 z=>?_) fun J J z=>z.elim;obtain⟨U4,H3,R3,N3,F3,q3⟩:=z;refine aB (KC a2 V R3 F3 q3) (fun b s4 z=>?_) fun J J z=>z.elim;obtain⟨H4,R4,N4,q4⟩:=z;have O4:=(O2.next Od N3).next (fun z=>z.elim) N4;have K4:=(K2.next U6 N3).next (fun z=>z.elim) N4;have Nb:=(Na.trans (wW N3)).trans (wW N4.up);have Z0:=IT.frame (i+1) _ s4.heap C5 (fun o e=>((N3.trans N4.up).keep I o O2.ng Od e O2.rM).1) (N3.trans N4.up).qb;induction b using aX with
  |false=>exact⟨l.length - (i+1),(Z.sb yZ),U4,H4,acc,i+1,rfl,R4,Nb,F3.pI N4,O4,K4,gA la,Z0,yZ,q4⟩
  |true=>refine aB (a3 env U4 H4 s4 _ ub V R4 (F3.pI N4) q4) (fun v5 s5 z=>?_) fun J J z=>z.elim;obtain⟨x5,H5,r5,R5,N5,q5⟩:=z;obtain⟨K5,vs,n,e5,rv5⟩:=K4.next (fun z=>z.elim) N5;have O5:=O4.next (fun z=>z.elim) N5;refine append_K R5.fr (WU R5 K5.ng e5) yP (fun h6 F6 N6=>?_) (aN▸rv5.length▸(bC (f9 (bM la yZ) (tO lz))));rw[lO]at N6;obtain⟨g6,k6⟩:=putBack N6;obtain⟨R6,M6,no6⟩:=K5.WT (tk:=s5.toks) R5 k6 F6.ns;have at6:=IT.frame (i+1) _ h6 Z0 (fun o e=>k6 I o Je O2.ng (N5.keep I o O2.ng (fun z=>z.elim) e O4.rM).1) ((pY.trans N5.qb M6.qb));have K6:AccAt c W H5 {s5 with heap:=h6} D (acc++[x5]):=⟨⟨no6,K5.nB,K5.ng,_,g6,qq rfl ⋯ ⋯⟩,vs++[v5],_,g6,(rv5.mono M6.qb).push (r5.mono M6.qb)⟩;exact⟨l.length - (i+1),(Z.sb yZ),U4,H5,acc++[x5],i+1,rfl,R6,(Nb.trans (wW N5.up)).trans (wD M6),(F3.pI N4).pI N5|>.next (s':={s5 with heap:=h6}) fD M6,O5.next Je M6,K6,(aa▸(dC la)),at6,yZ,q5⟩
 ·obtain rfl:i=l.length:=(Z.ctn hi yZ);rw[ju]at q';refine IT.done H' s' _ _ at' R' q'.1 fun h' tk k'=>?_;obtain⟨R1,N1,ZY⟩:=O'.step (tk:=tk) R' k';exact fin _ qp H' acc R1 (N'.trans (wI N1)) (F'.next (s':={s' with heap:=h',toks:=tk}) fI N1) (K'.next (fun z=>Je z.symm) N1) q'.2
end
end
section
variable[Inhabited Tg]
section
variable{c:Cfg}{A:aU}{W:Addr->Prop}{Ef:EF}
theorem tP(hs:∀n,(n,NameKind.free)∈ns->(env.cells.lookup n).isSome=true)(e:(pW h env ns).lookup x=some cc):
  ((x,NameKind.cell)∈ns/\h.objs.size+1<=cc)\/((x,NameKind.free)∈ns/\env.cells.lookup x=some cc):=by
 have Oc:=cellsFrom_ok ns (h.push {cls:=.type "dict",data:=.dict #[]}) (h.objs.size+1) [] ⟨fun _ _ hm=>(nomatch hm),lS⟩ (by rw[b9];exact aF _);rw[b9]at Oc;unfold pW at e;rw[uy,wH]at e;split at e
 ·rename_i c' KA;obtain rfl:=au e;refine .inl ⟨?_,(Oc.empty _ _ (mem_of_lookup KA)).2⟩;by_cases z:(x,NameKind.cell)∈ns
  ·exact z
  ·rw[(qU ns _ []).2 z]at KA;exact Z.nS KA
 ·rw[xU]at e;split at e
  ·rename_i hf;obtain⟨c2,p2⟩:=gj.mp (hs x hf);rw[p2]at e;exact .inr ⟨hf,by rw[p2];simpa using e⟩
  ·exact Z.nS e
theorem Iter.tJ(it:Iter c A l ok tg I At):Iter c.tJ A l ok tg I At:=⟨it.there,it.self,it.frame,it.item,it.done⟩
theorem zg(C:c.Ok A W Ef){xi cond xe:X}(ht:q9 Γ scope=true)(ns:sj iter=true)(Cz:yY tg)
  (a0:qK c A W Ef Γ iter xi)(a1:∀W',yE c.tJ A W' E0 (xy Γ scope.names) tg t)(a2:∀W',u7 c.tJ A W' E0 (xy Γ scope.names) ifs cond)(a3:∀W',qK c.tJ A W' E0 (xy Γ scope.names) elt xe)
  {X:QE}(V:qG env Γ)(R:Rel c.w.params c.B H s.heap)(F:pU W c.B H s.heap env Γ.pl U)
  (q:wE c.Θ c.call xi U H (fun x H1=>qr H1 (fun l ok=>l.length<=pq/\sF (compTurn c t cond xe) ok l [] (wb (u6 scope.names).length (sG Γ.pl 0 (u6 scope.names)) U) H1 Q) x) X)
  (fin:∀D L s1 H1 s' H' vs,Nx X0 H s H1 s1->pU W c.B H1 s1.heap env Γ.pl U->s1.heap.get? D=none->s1.heap.get? L=none->L≠D->Rel c.w.params c.B H' s'.heap->Nx (fun b=>b=D) H1 s1 H' s'->AccAt c W H' s' D vs->Off c W H' s' L->(∃m,s'.heap.Ns L m)->Q vs H'->mj (aD c.prog c.w) A (Ef H s X) use R2 (.ref D) L (.ok .next) s'):
  aE (aD c.prog c.w) A (comprehension (.ListComp elt [⟨tg,iter,ifs,0⟩] scope pos) scope env p (newList []) false (fE iter env) use) R2 (Ef H s X) s:=by
 have Oa:=ht;simp only[q9,aR,beq_iff_eq,bS]at Oa;obtain⟨⟨⟨t1,t2⟩,t3⟩,t4⟩:=Oa;have nd:=uK t2;obtain⟨zh,_,_⟩:=yG (cenv:={scope:=km scope env,locals:=s.heap.objs.size,globals:=env.globals,cells:=pW s.heap env scope.names,qual:=env.qual,func:=none,code:=env.code,frame:=env.frame,builtins:=env.builtins}) V R F ht rfl rfl rfl rfl rfl;refine jx (gs:=[]) (g:=⟨tg,iter,ifs,0⟩) rfl (by intro z;induction iter using Expr.casesOn<;>first|rfl|exact b6 ns) (wt zh) t1 (fun x hx hl=>by obtain⟨n,k⟩:=x;subst hl;exact p7 nd hx) (rD (a0 env U H s _ X V R F q) fun v s1 x1 H1 r1 R1 N1 q1=>?_);refine aB (yF (W:=W) C.hh C.sm R1 r1 q1) (fun it s2 z=>?_) fun J J z=>z;obtain⟨I,l,ok,At,rfl,IT,GD,fI,Rb,Nb,Ob,GH,lz,q2⟩:=z;have F1:=F.pI N1;have F2:=F1.pI Nb;refine cN (ym ?_);dsimp only;generalize Sp:({s2 with heap:=s2.heap.push {cls:=.type "list",dict:=none,data:=.seq ([]:List ai).toArray}}:Shared)=s3;have h3:s3.heap=s2.heap.push {cls:=.type "list",dict:=none,data:=.seq ([]:List ai).toArray}:=by rw[<-Sp]
 have KD:s3.heap.objs.size=s2.heap.objs.size+1:=by rw[h3,b9]
 have EW:∀b o,s2.heap.get? b=some o->s3.heap.get? b=some o:=fun b o e=>h3▸(ay _ e);have Rc:Rel c.w.params c.B H1 s3.heap:=Rb.ext EW;have N3:Nx X0 H1 s2 H1 s3:=Sp▸(Nx.qR (t:=s2.toks) ((Rb.max X0).ext (h':=s2.heap.push _) (h3▸EW)) (pY.of fun b o J e=>ay _ e));have F3:=F2.pI N3;have gD:s3.heap.get? s2.heap.objs.size=some (listOf ([]:List ai).toArray 0):=h3▸(aJ _ rfl);have OD:Off c W H1 s3 s2.heap.objs.size:=by obtain⟨a,b,d⟩:=sJ (h':=s3.heap) Rb EW (aF _);exact⟨a,d,b,_,gD,qq rfl ⋯ ⋯⟩
 generalize HZ:({scope:=km scope env,locals:=s3.heap.objs.size,globals:=env.globals,cells:=pW s3.heap env scope.names,qual:=env.qual,func:=none,code:=env.code,frame:=env.frame,builtins:=env.builtins}:Env)=cenv;have BJ:cenv.locals=s3.heap.objs.size:=by rw[<-HZ]
 have KG:cenv.cells=pW s3.heap env scope.names:=by rw[<-HZ]
 obtain⟨_,V4,F4⟩:=yG (cenv:=cenv) V Rc F3 ht (by rw[<-HZ]) BJ KG (by rw[<-HZ]) (by rw[<-HZ]);have EX:∀b o,s3.heap.get? b=some o->(qs s3.heap scope.names).get? b=some o:=uA;have R4:Rel c.w.params c.B H1 (qs s3.heap scope.names):=Rc.ext EX;have N4:Nx X0 H1 s3 H1 {s3 with heap:=qs s3.heap scope.names}:=Nx.qR (t:=s3.toks) ((Rc.max X0).ext EX) (pY.of fun b o J=>EX b o);have ge:∀b,uz s3.heap.objs.size scope.names (pW s3.heap env scope.names) b->s3.heap.objs.size<=b:=fun b hb=>by
  rcases hb with rfl|⟨x,hx,hl⟩
  ·exact aF _
  ·rcases tP zh hl with⟨_,z⟩|⟨z,_⟩
   ·exact cq z
   ·have h1:=p7 nd hx;rw[p7 nd z]at h1;exact nomatch h1
 have ltI:I<s2.heap.objs.size:=let ⟨o,e,_⟩:=IT tg|>.there _ _ GD;br e;have nI:¬uz s3.heap.objs.size scope.names (pW s3.heap env scope.names) I:=fun z=>absurd (ge _ z) (by rw[KD];exact mE.mpr (dU ltI));have nD:¬uz s3.heap.objs.size scope.names (pW s3.heap env scope.names) s2.heap.objs.size:=fun z=>absurd (ge _ z) (by rw[KD];exact kH _);have Oe:∀b,s2.heap.objs.size<=b->s1.heap.get? b=none:=fun b hb=>by
  cases e:s1.heap.get? b with
  |none=>rfl
  |some o=>exact absurd (br (GH _ _ e)) (b8.mpr hb)
 rw[BI]at q2;have loop:eB (aD c.prog c.w) A (.compLoop (.ListComp elt [⟨tg,iter,ifs,0⟩] scope pos) 0 (.ref I) (.ref s2.heap.objs.size) cenv) (mj (aD c.prog c.w) A (Ef H s X) use R2 (.ref s2.heap.objs.size) s3.heap.objs.size) {s3 with heap:=qs s3.heap scope.names}:=by
  refine HY (c:=c.tJ) (W:=uz s3.heap.objs.size scope.names (pW s3.heap env scope.names)) (H0:=H1) (s0:=s1) (K:=Q) C.tJ (IT tg).tJ (a1 _) (a2 _) (a3 _) (Cz.1 _) V4 fI (Oe _ (aF _)) (fun b hb=>?_) (cI ltI) nI nD lz ?_ R4 F4 ((((Nb.trans N3).trans N4).weak fun J z=>z.elim)) ?_ ?_ ?_ q2
  ·rcases hb with rfl|⟨x,hx⟩
   ·refine BJ.symm▸?_;exact .inl (.inl rfl)
   ·have hx:=KG▸hx;rcases tP zh hx with⟨z,_⟩|⟨z,w⟩
    ·exact .inl (.inr ⟨x,z,hx⟩)
    ·exact .inr (F1.own b (.inr ⟨x,w⟩)).1
  ·intro s' qp H' vs R' N' F' K' q';have Of:s3.heap.objs.size≠s2.heap.objs.size:=by rw[KD];exact fH _
   obtain⟨m,C8,_⟩:=F'.pl;have C8:=BJ▸C8;obtain⟨⟨o,eo⟩,p1,p2,p3⟩:=F'.own s3.heap.objs.size (.inl BJ.symm);refine fin _ _ s1 H1 s' H' vs N1 F1 (Oe _ (aF _)) (Oe _ (by rw[KD];exact bA _)) Of R' ⟨fun b o g n e w=>N'.keep b o g (fun z=>?_) e w,N'.qb,N'.gens,N'.drawn,N'.os⟩ (let ⟨o,vs,n,e,r⟩:=K';⟨⟨o.rM,o.nB,o.ng,o.tp⟩,vs,n,e,r⟩) ⟨p1,p3,p2,o,eo,fun t=>?_⟩ ⟨m,C8⟩ q'
   ·rcases z with(z|z)|z
    ·have:=ge _ z;rw[Oe b (by rw[KD]at this;exact cq this)]at e;exact Z.nS e
    ·rw[z,fI]at e;exact Z.nS e
    ·exact n z
   ·exact w7 C8 o eo t
  ·have:=(Ob.next (fun z=>z) N3).next (fun z=>z) N4;exact⟨this.rM,this.nB,this.ng,this.tp⟩
  ·have:=AccAt.next (X:=X0) (s:=s3) (s':={s3 with heap:=qs s3.heap scope.names}) (acc:=[]) ⟨OD,[],0,gD,rfl⟩ (fun z=>z) N4;obtain⟨o,vs,n,e,r⟩:=this;exact⟨⟨o.rM,o.nB,o.ng,o.tp⟩,vs,n,e,r⟩
  ·exact(IT tg).frame 0 s2.heap _ GD (fun o e=>EX _ _ (EW _ _ e)) (pY.of fun b o J e=>EX _ _ (EW _ _ e))
 have atL:At 0 ({s3 with heap:=qs s3.heap scope.names}:Shared).heap:=(IT tg).frame 0 s2.heap _ GD (fun o e=>EX _ _ (EW _ _ e)) (pY.of fun b o J e=>EX _ _ (EW _ _ e));rw[<-HZ]at loop;subst Sp;exact codeAny_compStart_list loop ((IT tg).self Cz.2 0 _ _ _ atL loop)
end
end
section
variable[Inhabited Tg]
section
variable{c:Cfg}{A:aU}{W:Addr->Prop}{Ef:EF}
theorem zi{H1 H':MH}{s1 s':Shared}{D:Addr}{o:O}(N:Nx (fun b=>b=D) H1 s1 H' s')(hD:s1.heap.get? D=none)(n:o.rP):Nx X0 H1 s1 (H'.upd D o) s':=by
 refine⟨fun b x g J e w=>?_,N.qb,N.gens,N.drawn,N.os⟩;have nb:b≠D:=fun z=>by rw[z,hD]at e;exact Z.nS e
 obtain⟨h1,h2⟩:=N.keep b x g nb e w;refine⟨h1,fun z=>?_⟩;rcases z with z|⟨a,C,f,ea,q⟩
 ·exact h2 (.inl (by unfold MH.upd at z;rwa[if_neg nb]at z))
 ·refine h2 (.inr ⟨a,C,f,?_,q⟩);unfold MH.upd at ea;split at ea
  ·obtain rfl:=au ea;exact n.elim
  ·exact ea
theorem Ia(C:c.Ok A W Ef){Γ:Cx}{tg elt iter:Expr}{ifs:List Expr}{scope:iH}{pos:Pos}{t:T}{xi cond xe:X}(ht:q9 Γ scope=true)(ns:sj iter=true)(Cz:yY tg)
  (a0:qK c A W Ef Γ iter xi)(a1:∀W',yE c.tJ A W' E0 (xy Γ scope.names) tg t)(a2:∀W',u7 c.tJ A W' E0 (xy Γ scope.names) ifs cond)(a3:∀W',qK c.tJ A W' E0 (xy Γ scope.names) elt xe):
  qK c A W Ef Γ (.ListComp elt [⟨tg,iter,ifs,0⟩] scope pos) (.comp (u6 scope.names).length (sG Γ.pl 0 (u6 scope.names)) t xi cond xe):=fun env U H s Q X V R F q=>by
 dsimp only[Bv]at q;refine zg (use:=none) C ht ns Cz a0 a1 a2 a3 V R F (Q:=fun vs H2=>rj (.list vs) H2 Q) q fun D L s1 H1 s' H' vs N1 F1 fD fL Of R' N' K' OL hL q'=>?_;obtain⟨m,hL⟩:=hL;refine⟨m,hL,fun h' sb=>?_⟩;have tQ:=OL.step (tk:=s'.toks) R' (fun b o hb e=>(sb.2 b hb).trans e);obtain⟨OD,us,n,e,r⟩:=K'.next (fun z=>Of z.symm) tQ.2.1;have N3:Nx (fun b=>b=D) H1 s1 H' {s' with heap:=h'}:=⟨fun b o g nb e w=>let z:=N'.keep b o g nb e w;tQ.2.1.keep b o g (fun z=>by rw[z,fL]at e;exact Z.nS e) z.1 z.2,N'.qb.trans tQ.2.1.qb,tQ.2.1.gens.trans N'.gens,tQ.2.1.drawn.trans N'.drawn,tQ.2.1.os.trans N'.os⟩;have hn:H' D=none:=by
  cases z:H' D with
  |none=>rfl
  |some o=>exact absurd (.inl (z▸(fun q=>by cases q))) OD.rM
 exact⟨.ref D,_,tx.mpr rfl,tQ.1.adopt OD.rM OD.nB OD.ng (o:=.list vs) ⟨us,n,e,r⟩ trivial,N1.trans (zi N3 fD trivial),q' D hn⟩
theorem Sq(C:c.Ok A W Ef){Γ:Cx}{tg elt iter:Expr}{ifs:List Expr}{scope:iH}{pos p1 p2:Pos}{x:PySem.Str}{i:Nat}{y:PySem.Str}{t:T}{xi cond xe:X}
  (hsw:∀env,qG env Γ->iJ (.ListComp elt [⟨tg,iter,ifs,0⟩] scope pos) (some (.Name x p1)) p2.line env=cL true)(hi:place Γ.pl x=some i)(hy:Γ.pl[i]? =some (y,true))(ht:q9 Γ scope=true)(ns:sj iter=true)(Cz:yY tg)
  (a0:qK c A W Ef Γ iter xi)(a1:∀W',yE c.tJ A W' E0 (xy Γ scope.names) tg t)(a2:∀W',u7 c.tJ A W' E0 (xy Γ scope.names) ifs cond)(a3:∀W',qK c.tJ A W' E0 (xy Γ scope.names) elt xe):
  BD c A W Ef Γ (.Assign [.Name x p1] (.ListComp elt [⟨tg,iter,ifs,0⟩] scope pos) p2) (.asg (.v i) (.comp (u6 scope.names).length (sG Γ.pl 0 (u6 scope.names)) t xi cond xe)):=fun env U H s K X V O R F q=>by
 obtain⟨b',e'⟩:=tc hi;rw[hy]at e';cases e';dsimp only[JO,Bv]at q;rw[exec_Assign_Name_used _ _ _ _ (hsw env V)];refine af (dh (af ?_));refine af (aB (zg (use:=some (fv (.Name x p1) env)) (R2:=fun J s'=>NJ W c.w.params c.B H s env Γ.pl K .next s') C ht ns Cz a0 a1 a2 a3 V R F (Q:=fun vs H2=>rj (.list vs) H2 fun v H1=>wA c.Θ c.call (.v i) v U H1 (fun qp H2=>K .next qp H2) X) q fun D L s1 H1 s' H' vs N1 F1 fD fL Of R' N' K' OL hL q'=>?_) (fun J s' hq=>az (az hq)) fun J J e=>e);obtain⟨m,hL⟩:=hL;have fne:∀b,(b=env.locals\/∃x,env.cells.lookup x=some b)->b≠D/\b≠L:=fun b hb=>by obtain⟨o,e⟩:=(F1.own b hb).1;exact⟨fun z=>(by rw[z,fD]at e;exact Z.nS e),fun z=>(by rw[z,fL]at e;exact Z.nS e)⟩
 have nWL:¬W L:=fun z=>(fne L (F1.wx L z)).2 rfl;obtain⟨OD,us,n,e,r⟩:=K';have hn:H' D=none:=by
  cases z:H' D with
  |none=>rfl
  |some o=>exact absurd (.inl (by rw[z];exact fun q=>by cases q)) OD.rM
 have Ra:=R'.adopt OD.rM OD.nB OD.ng (o:=.list vs) ⟨us,n,e,r⟩ trivial;have Na:=zi (o:=.list vs) N' fD trivial;have Fa:=F1.pI Na;have oL:¬Own (H'.upd D (.list vs)) s'.heap L:=fun z=>by
  rcases z with z|⟨a,C',f,ea,q⟩
  ·exact OL.rM (.inl (by unfold MH.upd at z;rwa[if_neg Of]at z))
  ·refine OL.rM (.inr ⟨a,C',f,?_,q⟩);unfold MH.upd at ea;split at ea
   ·exact nomatch ea
   ·exact ea
 have q2:=q' D hn;refine assign_Name (aB (w8 (K:=fun qp H2=>K .next qp H2) Ra Fa hy (tx.mpr rfl) (wZ q2).2) (fun J s5 z=>?_) fun J J z=>C.en (N1.trans Na).up z);obtain⟨ρ5,H5,R5,N5,F5,q5⟩:=z;have OL5:Off c W H5 s5 L:=Off.next (s:=s') ⟨oL,OL.nB,OL.ng,OL.tp⟩ nWL N5;obtain⟨oo,es,ep,eo,hd⟩:=id hL;have hL5:s5.heap.Ns L m:=⟨oo,es,ep,(N5.keep L oo OL.ng nWL eo oL).1,hd⟩;refine⟨m,hL5,fun h' sb=>?_⟩;have k:∀b o,b≠L->s5.heap.get? b=some o->h'.get? b=some o:=fun b o hb e=>(sb.2 b hb).trans e;obtain⟨R6,N6,_⟩:=OL5.step (tk:=s5.toks) R5 k;have F6:=F5.next (s':={s5 with heap:=h'}) (fun b hb z=>(fne b hb).2 z) N6;have N7:Nx W H1 s1 H5 {s5 with heap:=h'}:=by have Nb:=Na.up.trans N5;exact⟨fun b o g nb e w=>let z:=Nb.keep b o g nb e w;N6.keep b o g (fun z=>by rw[z,fL]at e;exact Z.nS e) z.1 z.2,Nb.qb.trans N6.qb,N6.gens.trans Nb.gens,N6.drawn.trans Nb.drawn,N6.os.trans Nb.os⟩
 exact⟨.next,ρ5,H5,rfl,R6,N1.up.trans N7,F6,q5⟩
end
end
section
variable[Inhabited Tg]
section
variable{c:Cfg}{A:aU}{W:Addr->Prop}{Ef:EF}
def BK(c:Cfg)(A:aU)(W:Addr->Prop)(Ef:EF)(Γ:Cx)(o:Option Expr)(x:X):Prop:=(o=none/\x=.c .none)\/∃e,o=some e/\qK c A W Ef Γ e x
theorem GI(K:BK c A W Ef Γ o x){X:QE}(V:qG env Γ)(R:Rel c.w.params c.B H s.heap)(F:pU W c.B H s.heap env Γ.pl U)(q:wE c.Θ c.call x U H Q X):
  aE (aD c.prog c.w) A (evalPart o env) (p6 c.w.params c.B H s Q) (Ef H s X) s:=by
 rcases K with⟨rfl,rfl⟩|⟨e,rfl,a⟩
 ·rw[evalPart_none];exact az (p6.here R (tM.mpr rfl) q)
 ·rw[evalPart_some];exact a env U H s Q X V R F q
theorem KH(C:c.Ok A W Ef){lo hi:Option Expr}(a0:qK c A W Ef Γ o x)(a1:BK c A W Ef Γ lo y)(a2:BK c A W Ef Γ hi z):qK c A W Ef Γ (.Subscript o (.Slice lo hi none p) pos) (.Al x y z):=fun env U H s Q X V R F q=>by dsimp only[JF]at q;refine mA (rD (a0 env U H s _ X V R F q) fun v1 s1 x1 H1 r1 R1 N1 q1=>wpAny_Slice ?_);refine tI (fun J J=>C.en N1.up) (GI a1 V R1 (F.pI N1) q1) fun v2 s2 x2 H2 r2 R2 N2 q2=>?_;refine tI (fun J J=>C.en (N1.trans N2).up) (GI a2 V R2 ((F.pI N1).pI N2) q2) fun v3 s3 x3 H3 r3 R3 N3 q3=>?_;refine az ?_;exact aB (Sl (fun J J=>rfl) R3 ((r1.mono N2.qb).mono N3.qb) (r2.mono N3.qb) r3 q3) (fun J J k=>((k.after N3).after N2).after N1) fun J J z=>z
theorem KI(a0:qK c A W Ef Γ o x):qK c A W Ef Γ (.Subscript o (.Slice none none (some (.UnaryOp .USub (.Constant (.int 1) k p1) p2)) p) pos) (.rev x):=fun env U H s Q X V R F q=>by dsimp only[JG]at q;refine mA (rD (a0 env U H s _ X V R F q) fun v1 s1 x1 H1 r1 R1 N1 q1=>wpAny_Slice ?_);refine az (az ?_);refine kO (iU ?_);refine kB ?_;have N2:Nx X0 H1 s1 H1 {s1 with toks:=s1.toks+1+1}:=Nx.tok _ _ _ _;exact aB (Sn (s:={s1 with toks:=s1.toks+1+1}) (.int _ _) (fun J J=>rfl) R1 r1 q1) (fun J J k=>(k.after N2).after N1) fun J J z=>z
noncomputable def af9:Const->Option Int
 | .int i=>some i
 |_=>none
def WV:Option Expr->Option Int
 |some (.Constant c _ _)=>af9 c
 |_=>none
noncomputable def keysOf:List (Option Expr)->Option (List Int)
 |[]=>some []
 |k::r=>(WV k).bind fun i=>(keysOf r).map (i::·)
theorem Og(h:WV k=some i):∃u p,k=some (.Constant (.int i) u p):=by
 induction k using cO with
 |none=>exact Z.nS h
 |some e=>induction e using Expr.casesOn with
  |Constant c u p=>induction c using kT with
   |int i=>obtain rfl:=au h;exact⟨u,p,rfl⟩
   |_=>exact Z.nS h
  |_=>exact Z.nS h
theorem yn(h:keysOf (k::r)=some ks):∃i u p GJ,k=some (.Constant (.int i) u p)/\ks=i::GJ/\keysOf r=some GJ:=by obtain⟨i,xJ⟩:=cg.mp h;obtain⟨u,p,e⟩:=Og xJ.1;obtain⟨GJ,WW⟩:=bG.mp xJ.2;exact⟨i,u,p,GJ,e,WW.2.symm,WW.1⟩
theorem Ib:qK c A W Ef Γ (.Dict [] [] pos) (.uH [] .nil):=fun env U H s Q X V R F q=>by refine wpAny_Dict_empty ?_;exact p6.new (o:=.dict [] 0) (t:=s.toks) R trivial (aF _) (fun b o e=>ay _ e) ⟨[],0,aJ _ rfl,rfl,.nil,rfl⟩ (q.2 0)
def U7(h:bp):List V->List (Int×ai)->Prop
 |[],kvs=>kvs=[]
 |x::r,kvs=>∃k v t,kvs=(k,v)::t/\VR h x v/\U7 h r t
theorem U7.mono(st:pY h h'):∀{kvs:List (Int×ai)},U7 h xs kvs->U7 h' xs kvs:=by
 induction xs with
 |nil=>exact id
 |cons x r ih=>exact c6 fun k=>c6 fun v=>c6 fun t z=>⟨z.1,z.2.1.mono st,ih z.2.2⟩
inductive Ic(c:Cfg)(H:MH)(s:Shared)(ks:List Int)(Q:List Mine.Internal.V->MH->Prop)(vs:List (ai×ai))(s1:Shared):Prop where
 |mk (kvs:List (Int×ai)) (xs:List Mine.Internal.V) (H1:MH) (a:Carries (bD c.prog c.w) vs kvs) (b:kvs.map ar=ks) (d:U7 s1.heap xs kvs) (R:Rel c.w.params c.B H1 s1.heap) (N:Nx X0 H s H1 s1) (q:Q xs H1)
theorem KJ(C:c.Ok A W Ef)(V:qG env Γ)(ih:∀e,qK c A W Ef Γ e (g e)):∀(keys:List (Option Expr)) (es:List Expr) (ks:List Int) (U:Loc) (H:MH) (s:Shared) (Q:List Mine.Internal.V->MH->Prop),keysOf keys=some ks->keys.length=es.length->Rel c.w.params c.B H s.heap->pU W c.B H s.heap env Γ.pl U->
  wEs c.Θ c.call (xK (es.map g)) U H Q XE->aE (aD c.prog c.w) A (evalPairs (pairTrees keys es env pos)) (Ic c H s ks Q) (Ef H s XE) s:=by
 intro keys;induction keys with
 |nil=>
  exact fun es ks U H s Q hk hl R F q=>by
   induction es using aH with
   |cons _ _=>cases hl
   |nil=>obtain rfl:=au hk;exact evalPairs_nil ⟨[],[],H,trivial,rfl,rfl,R,Nx.refl _ _ _,q⟩
 |cons key keys Oh=>
  exact fun es ks U H s Q hk hl R F q=>by
   induction es using aH with
   |nil=>cases hl
   |cons e es=>
    ·obtain⟨i,u,p,GJ,rfl,rfl,hk2⟩:=yn hk;refine evalPairs_cons (iU ?_);have N0:Nx X0 H s H {s with toks:=s.toks+1}:=Nx.tok _ _ _ _;refine af (tI (fun J J=>C.en N0.up) (ih e env U H {s with toks:=s.toks+1} _ XE V R (F.pI N0) q) fun v1 s1 x1 H1 r1 R1 N1 q1=>?_);refine af (dh (az ?_));refine aB (Oh es GJ U H1 s1 _ hk2 (eR hl) R1 (pU.pI (s:={s with toks:=s.toks+1}) (F.pI N0) N1) q1) (fun vs s2 z=>?_) fun J J=>C.en (N0.trans N1).up;obtain⟨kvs,xs,H2,c1,c2,c3,R2,N2,q2⟩:=z;exact⟨(i,v1)::kvs,x1::xs,H2,⟨decide_eq_true rfl,rfl,c1⟩,congrArg (i::·) c2,⟨i,v1,kvs,rfl,r1.mono N2.qb,c3⟩,R2,(N0.trans N1).trans N2,q2⟩
theorem Ie:∀(xs:List V) (kvs:List (Int×ai)) (es:List (Int×V)) (acc:List (Int×ai)),U7 h xs kvs->DK h es acc->(es.map ar).Nodup->
  DK h (((kvs.map ar).zip xs).foldl (fun es e=>dput e.1 e.2 es) es) (merged acc kvs)/\((((kvs.map ar).zip xs).foldl (fun es e=>dput e.1 e.2 es) es).map ar).Nodup:=by
 intro xs;induction xs with
 |nil=>exact fun kvs es acc r d nd=>by subst r;exact⟨d,nd⟩
 |cons x xs Dl=>exact fun kvs es acc r d nd=>by obtain⟨k,v,t,vw⟩:=r;obtain rfl:=vw.1;have:=Dl t (dput k x es) (lB acc k v) vw.2.2 (DK.put vw.2.1 d nd) (yQ nd);exact this
theorem KL(C:c.Ok A W Ef)(hk:keysOf keys=some ks)(hl:keys.length=es.length)(h0:keys≠[])(hlen:keys.length<=15)(ih:∀e,qK c A W Ef Γ e (g e)):
  qK c A W Ef Γ (.Dict keys es pos) (.uH ks (xK (es.map g))):=fun env U H s Q X V R F q=>by
 dsimp only[JJ]at q;have Sr:∀(keys:List (Option Expr)) (ks:List Int),keysOf keys=some ks->keys.all (·.isSome)=true:=by
  intro keys;induction keys with
  |nil=>intro ks _;rfl
  |cons k r ih=>intro ks h;obtain⟨i,u,p,GJ,rfl,rfl,h'⟩:=yn h;simpa using ih GJ h'
 refine wpAny_Dict_walk (knd:=bD c.prog c.w) (Sr _ _ hk) hl h0 hlen ?_;have k1:∀b o,s.heap.get? b=some o->(s.heap.push {cls:=.type "dict",data:=.dict #[]}).get? b=some o:=fun b o e=>ay _ e;have N1:Nx X0 H s H {s with heap:=s.heap.push {cls:=.type "dict",data:=.dict #[]}}:=Nx.qR (t:=s.toks) ((R.max X0).ext k1) (pY.of fun b o J=>k1 b o);have R1:=R.ext k1;have gD:(s.heap.push {cls:=.type "dict",data:=.dict #[]}).get? s.heap.objs.size=some {cls:=.type "dict",data:=.dict #[]}:=aJ _ rfl;have OD:Off c W H {s with heap:=s.heap.push {cls:=.type "dict",data:=.dict #[]}} s.heap.objs.size:=by have HP:=sJ R k1 (aF _);exact⟨HP.1,HP.2.2,HP.2.1,_,gD,qq rfl ⋯ ⋯⟩
 refine aB (KJ C (XE:=X) V ih keys es ks U H {s with heap:=s.heap.push {cls:=.type "dict",data:=.dict #[]}} _ hk hl R1 (F.pI N1) q) (fun vs s2 z=>?_) fun J J=>C.en N1.up;obtain⟨kvs,xs,H2,c1,c2,c3,R2,N2,q2⟩:=z;obtain⟨q2,q3⟩:=q2;have g2:=N2.keep _ _ OD.ng (fun z=>z) gD OD.rM;refine⟨kvs,c1,⟨_,#[],0,g2.1,⟨rfl,rfl,rfl⟩,rfl,fun e he=>by simp at he,.nil,.nil⟩,fun h' m' sb=>?_⟩;have O2:Off c W H2 s2 s.heap.objs.size:=OD.next (fun z=>z) N2;have k2:∀b o,b≠s.heap.objs.size->s2.heap.get? b=some o->h'.get? b=some o:=fun b o hb e=>(sb.2 b hb).trans e;obtain⟨R3,N3,n3⟩:=O2.step (tk:=s2.toks+vs.length) R2 k2;obtain⟨d1,d2⟩:=Ie xs kvs [] [] (c3.mono N3.qb) rfl (by simp);obtain⟨ep,o'⟩:=yR (P:=c.w.params) m' d1 d2;have fD:s.heap.get? s.heap.objs.size=none:=dO (aF _);have Na:Nx (fun b=>b=s.heap.objs.size) H s H2 {s2 with heap:=h',toks:=s2.toks+vs.length}:=((N1.trans N2).weak fun J z=>z.elim).trans N3;have hn:H2 s.heap.objs.size=none:=by
  cases z:H2 s.heap.objs.size with
  |none=>rfl
  |some o=>exact absurd (.inl (z▸(fun q=>by cases q))) n3
 rw[c2]at o';exact⟨.ref _,_,tx.mpr rfl,R3.adopt n3 O2.nB O2.ng o' trivial,zi Na fD trivial,q3 ep _ hn⟩
end
end
section
variable[Inhabited Tg]
set_option maxRecDepth 100000 in
set_option tactic.hygienic true in
theorem vH(l:Addr)(o:Obj)(items:Array ai)(n:Nat)(h1:o.cls=.type "tuple")(h2:o.data=.seq items n):
  Meets (Builtin.«enumerate.__new__» ⟨[.type "enumerate",.ref l],[]⟩) (fun J R s=>s.heap.get? l=some o/\
   R (.ok (.ret (.ref (s.heap.push {cls:=.type "tuple_iterator",data:=.fields #[.ref l,.int 0 0]}).objs.size)))
    {s with heap:=(s.heap.push {cls:=.type "tuple_iterator",data:=.fields #[.ref l,.int 0 0]}).push {cls:=.type "enumerate",data:=.fields #[.none,.bool false,.ref s.heap.objs.size,kj 0,.none,.none]}}):=
 .of_wp fun prog w A R s h=>by
  obtain⟨hp,g,d,tk,os⟩:=s;obtain⟨hl,h⟩:=h
  have WX:=sub_enumerate
  have hL:Heap.IsTuple (Shared.heap ⟨hp,g,d,tk,os⟩) l items:=⟨o,hl,h1,n,h2⟩
  obtain⟨oc,od,oda,ZW⟩:=o
  simp only at h1 h2
  subst h1 h2
  wp_walk using jy hl
  refine wpAny_stack_any fun st=>az (eA (fun J=>?_) (fun J=>?_))
  all_goals
   wp_walk using jy hl,f6 hL
   exact⟨_,rfl,h⟩
section
variable{prog:Program}{w:aP}{A:aU}{E:ai->Shared->Prop}{s:Shared}
theorem wJ(hL:gJ s.heap l items)
  (h:∀h',IsEnum h' (s.heap.objs.size+1) s.heap.objs.size 0 .none->h'.IsTupleIter s.heap.objs.size l 0->h'.objs.size=s.heap.objs.size+2->
   (∀b o,s.heap.get? b=some o->h'.get? b=some o)->Q (.ref (s.heap.objs.size+1)) {s with heap:=h'}):
  aE (aD prog w) A (call (.type "enumerate") [.ref l]) Q E s:=by
 obtain⟨o,hl,hc,n,hd⟩:=hL;refine callType_new PySem.F.called_enumerate ⋯ (PySem.F.typeCall_enumerate_1 _) (PySem.F.newCall_enumerate_1 _) (fun obj=>PySem.F.args_object_init_2 obj _) PySem.F.entry_enumerate_new (vH l o items n hc hd) ⟨hl,?_⟩;have hz:(s.heap.push {cls:=.type "tuple_iterator",data:=.fields #[.ref l,.int 0 0]}).objs.size=s.heap.objs.size+1:=b9 ..;refine hz▸?_;have he:IsEnum ((s.heap.push {cls:=.type "tuple_iterator",data:=.fields #[.ref l,.int 0 0]}).push
   {cls:=.type "enumerate",data:=.fields #[.none,.bool false,.ref s.heap.objs.size,kj 0,.none,.none]}) (s.heap.objs.size+1) s.heap.objs.size 0 .none:=by
  have:=aJ (s.heap.push {cls:=.type "tuple_iterator",data:=.fields #[.ref l,.int 0 0]}) (o:={cls:=.type "enumerate",data:=.fields #[.none,.bool false,.ref s.heap.objs.size,kj 0,.none,.none]}) rfl
  rw[hz]at this;exact this
 refine⟨⟨_,he,rfl⟩,h _ he ⟨_,ay _ (aJ _ rfl),rfl,rfl⟩ (by rw[b9,hz]) fun b o x=>ay _ (ay _ x)⟩
theorem xV(hh:A.handled=none)
  (hit:s.heap.IsTupleIter it t i)(ht:gJ s.heap t items)(hx:items[i]? =none)
  (hE:∀h' e,j0 it s.heap h'->(∃o,h'.get? e=some o/\o.cls=.type "StopIteration")->E (.ref e) {s with heap:=h'}):
  aE (aD prog w) A (nQ (.ref it)) Q E s:=by obtain⟨o,ho,hc,hd⟩:=id hit;obtain⟨ol,BL,_,nl,Z1⟩:=ht;refine af (dY (name:=bj "__next__") hit.typeIs PySem.F.slot_tuple_iterator_next (cW PySem.F.slot_tuple_iterator_next hit.typeIs PySem.F.entry_tuple_iterator_next ?_ (PySem.F.args_tuple_iterator_next_1 _)));show aE _ _ (field (.ref it) 0>>=_) _ _ s;refine af (gH ho hd (x:=.ref t) rfl ?_);refine(if_neg (show ¬((iR t==Value.none)=true)from f5))▸?_;refine af (gH ho hd (x:=.int i 0) rfl ?_);refine af (iC BL Z1 ?_);simp only[cZ,hx];refine af (hN (af (iE ho hd (by simp) ?_)));refine af ?_;refine af (cN ?_ (by size_fits));refine af (m:=iF _ _) (cR (a:=Value.none) (by first|rfl|(simp only[iF];rfl)) ?_);refine cN ?_ (by size_fits);refine af (wpAny_handled ?_);refine(show A.in1.handled=none from hh).symm▸?_;refine af (az (wpAny_throw ?_));exact hE _ _ (((Heap.SameBut.update ..).extBut.push _).push _) ⟨_,aJ _ rfl,rfl⟩
theorem xW{i:Nat}(hh:A.handled=none)
  (he:IsEnum s.heap e it i old)(hit:s.heap.IsTupleIter it t i)(hl:gJ s.heap t items)(hx:items[i]? =none)
  (hQ:∀h',j0 it s.heap h'->Q none {s with heap:=h'}):aE (aD prog w) A (jt (.ref e)) Q E s:=by refine af (kU (dY (name:=bj "__next__") (⟨_,he,rfl⟩) PySem.F.slot_enumerate_next (cW PySem.F.slot_enumerate_next (⟨_,he,rfl⟩) PySem.F.entry_enumerate_next ?_ (PySem.F.args_enumerate_next_1 _))));show aE _ _ (field (.ref e) 2>>=_) _ _ _;refine af (gH he rfl (x:=.ref it) rfl ?_);refine af (xV hh hit hl hx fun h' x he' WC=>?_);obtain⟨o,ux⟩:=WC;refine af (gN (T:="StopIteration") (b:=true) ⟨o,ux.1,ux.2⟩ mV ?_);exact az (hQ _ he')
end
section
variable{c:Cfg}{A:aU}{W:Addr->Prop}{Ef:EF}
theorem WY(C:c.Ok A W Ef){b:List Stmt}(h:(qX "enumerate"&&Γ.kinds.lookup ("enumerate":PySem.Str)==some .globalImplicit)=true)(g:c.gl "enumerate"=some (.ty "enumerate"))(ns:noStar a=true)(a0:qK c A W Ef Γ a x):
  BD c A W Ef Γ (.For tg (.Call (.Name "enumerate" ep) [a] [] cp) b [] p) (.U0 x):=fun env U H s K X V O R F q=>by
 simp only[aR,beq_iff_eq]at h;refine nq ?_ (by intro z;rfl);refine fG (du V.kind (by unfold Env.kindOf;rw[V.names];exact h.2) (u5 (C.ty "enumerate" _ g) V R ?_) (s9 h.1));refine qO (g:=fun J=>x) (XE:=X) (Q:=fun vs H1=>vs=[.tup []]/\K .next U H1) rfl C (tV (fun J z=>by cases z)) (es:=[a]) (by rw[gK,ns];rfl) (GA C ns a0 J6) V R F [] ?_ fun v s1 xs H1 r1 R1 N1 q1=>?_
 ·have q:wE c.Θ c.call x U H (fun x H1=>x=.tup []/\K .next U H1) X:=q;show wE c.Θ c.call x U H (fun v H1=>[v]=[.tup []]/\K .next U H1) X;rw[show(fun(v:Mine.Internal.V) (H1:MH)=>[v]=[.tup []]/\K .next U H1)=fun x H1=>x=.tup []/\K .next U H1 from funext fun v=>funext fun H1=>by rw[jK];simp only[and_true]];exact q
 obtain⟨rfl,q1⟩:=q1;obtain⟨v,_,rfl,r1,rfl⟩:=r1;obtain⟨t,vs,rfl,g,ht,rn⟩:=r1;subst rn;refine wJ ht fun h' he hit hz kk=>?_;refine wpAny_pyIter_enum he ?_;have st:pY s1.heap h':=pY.of fun b o J=>kk b o;have R2:Rel c.w.params c.B H1 h':=R1.ext kk;have N2:Nx X0 H1 s1 H1 {s1 with heap:=h'}:=Nx.qR (t:=s1.toks) ((R1.max X0).ext kk) st;refine kX (fun k s'=>k=0/\s'={s1 with heap:=h'}) ?_ 0 ⟨rfl,rfl⟩;rintro k s' ⟨rfl,rfl⟩;refine xW C.hh he hit ((st.tup g ht)) rfl fun h2 k2=>?_;have fr:s1.heap.get? s1.heap.objs.size=none:=dO (aF _);have kk2:∀b o,s1.heap.get? b=some o->h2.get? b=some o:=fun b o e=>k2 b o (fun z=>by rw[z,fr]at e;exact Z.nS e) (kk b o e);have N3:Nx X0 H1 s1 H1 {s1 with heap:=h2}:=Nx.qR (t:=s1.toks) ((R1.max X0).ext kk2) (pY.of fun b o J=>kk2 b o);exact hV ⟨.next,U,H1,rfl,R1.ext kk2,(N1.trans N3).up,(F.pI N1).pI N3,q1⟩
end
end
section
variable[Inhabited Tg]
section
variable{c:Cfg}{A:aU}{W:Addr->Prop}{Ef:EF}
theorem DK.get:∀{es:List (Int×Mine.Internal.V)} {kvs:List (Int×ai)} {i:Nat} {k:Int} {x:Mine.Internal.V},DK h es kvs->es[i]? =some (k,x)->∃v,kvs[i]? =some (k,v)/\VR h x v
 |[],_,i,k,x,r,e=>nomatch e
 |(k0,x0)::es,_,0,k,x,⟨v,r',e',q,r⟩,e=>by subst e';cases e;exact⟨v,rfl,q⟩
 |(k0,x0)::es,_,i+1,k,x,⟨v,r',e',q,r⟩,e=>by subst e';exact DK.get (i:=i) r e
theorem KN(hh:A.handled=none)(na:a≠I):Iter c A (es.map fun e=>.tup [.int e.1,e.2]) (fun H'=>H' a=some (.dict es ep)) (.Tuple elts x1 pos) I (fun i h=>∃u v,IsItemIter h I a i es.length ep u v) where
 there:=fun i h ⟨_,_,e⟩=>⟨_,e,qq rfl ⋯ ⋯⟩
 self:=fun z=>by exact Z.tF z
 frame:=fun i h h' ⟨u,v,x⟩ e J=>⟨u,v,e _ x⟩
 item:=fun i x H s Q E hx at' R ok k=>by
  obtain⟨kvs,m,r,nd⟩:=rq c.prog c.w (R.obj _ _ ok)
  obtain⟨u,v,at'⟩:=at'
  rw[bO,bG]at hx
  obtain⟨⟨k0,x0⟩,he0,rfl⟩:=hx
  obtain⟨v0,WZ⟩:=r.get he0
  refine wpAny_pyNext_items_item (knd:=bD c.prog c.w) (r.length▸at') m WZ.1 fun key h' HN hit ht hs kk=>?_
  rw[r.length]at hit
  obtain⟨t,rfl⟩:=gy HN
  have t0:C3 s.heap I:=⟨_,at',qq rfl ⋯ ⋯⟩
  have st:pY s.heap h':=xP t0 kk
  have ng:s.heap.objs.size≠LL:=fun z=>by have:=R.glob.lt;have this:=z▸this;exact eW _ this
  refine k _ h' s.toks (qN.mpr ⟨_,[.int k0 t,v0],rfl,ng,⟨_,ht,rfl,_,rfl⟩,?_⟩) ⟨_,hit,qq rfl ⋯ ⋯⟩ kk fun Q' E' k2=>?_
  ·exact⟨_,_,rfl,⟨_,rfl⟩,_,_,rfl,WZ.2.mono st,rfl⟩
  ·exact wpAny_letOwnedTupleGo_items (s:={s with heap:=h'}) hit fun yu RZ sb=>k2 yu ⟨_,_,RZ⟩ fun b o hb e=>(sb.2 b hb).trans e
 done:=fun H s Q E at' R ok k=>by
  obtain⟨u,v,at'⟩:=at'
  obtain⟨kvs,m,r,nd⟩:=rq c.prog c.w (R.obj _ _ ok)
  exact wpAny_pyNext_items_end (knd:=bD c.prog c.w) hh (r.length▸at') m (by simp[r.length]) fun h' he=>k h' s.toks fun b o hb e=>he b o hb e
theorem W0(C:c.Ok A W Ef)(hb:∀env,i7 o "items" env (fE o env)=fE o env)(hl:(apos.endLine==ag0.line)=true)
  (a0:qK c A W Ef Γ o x)(a1:yE c A W Ef Γ (.Tuple elts x1 tp) t)(a2:Av c A W Ef Γ b y):
  BD c A W Ef Γ (.For (.Tuple elts x1 tp) (.Call (.Attribute o "items" apos) [] [] ag0) b [] p) (.UZ t x y):=fun env U H s K X V O R F q=>by
 have q:wE c.Θ c.call x U H (fun x H1=>∃r es ep,x=.ref r/\H1 r=some (.dict es ep)/\es.length<=16384/\rY (C4 c t y X) (fun H'=>H' r=some (.dict es ep)) (es.map fun e=>.tup [.int e.1,e.2]) U H1 K) X:=q;refine nq (wpAny_Call_method (T:="dict") (id:="dict.items") (hb env) rfl hl PySem.F.plainAttrs_dict PySem.F.slot_dict_items PySem.F.type_dict_items (rD (a0 env U H s _ X V R F q) fun v s1 x1 H1 r1 R1 N1 q1=>?_)) (by intro z;rfl);obtain⟨a,es,ep,rfl,e,hl,q1⟩:=q1;obtain⟨kvs,m,r,nd⟩:=rq c.prog c.w (R1.obj _ _ e);subst r1;have m':=m.dictOf;refine⟨m'.typeIs,m'.mapOf.noDict,?_⟩;refine method_meetsIn PySem.F.slot_dict_items PySem.F.entry_dict_items rfl (PySem.evalArgs_none ⟨rfl,m'.typeIs,PySem.F.args_dict_items_1 _,_,meets_dict_items (bD c.prog c.w) a (tN R1 C.sm e),⟨kvs,m'⟩,?_⟩);obtain⟨oa,eo⟩:=(R1.obj _ _ e).there;have nt1:¬Tp {cls:=.type "dict_items",data:=.fields #[.ref a]}:=qq rfl ⋯ ⋯;obtain⟨f2,R2,N2,_⟩:=xO (c:=c) (W:=W) R1 nt1;have m2:=m.push {cls:=.type "dict_items",data:=.fields #[.ref a]};refine wpAny_pyIter_items (s:={s1 with heap:=s1.heap.push _}) (knd:=bD c.prog c.w) (d:=a) (kvs:=kvs) (ep:=ep) ⟨_,aJ _ rfl,rfl,rfl⟩ m2 ?_;refine r.length▸?_;have nt2:¬Tp {cls:=.type "dict_itemiterator",data:=.fields #[.none,.bool false,.ref a,.int 0 0,.int es.length 0,.int ep 0,.none,.none]}:=qq rfl ⋯ ⋯;obtain⟨f3,R3,N3,O3⟩:=xO (c:=c) (W:=W) (s:={s1 with heap:=s1.heap.push {cls:=.type "dict_items",data:=.fields #[.ref a]}}) R2 nt2;have F1:=F.pI N1;have F2:=F1.pI N2;have na:a≠(s1.heap.push {cls:=.type "dict_items",data:=.fields #[.ref a]}).objs.size:=cI (br (ay _ eo));refine fy (GC C (KN C.hh na) a1 a2 (s0:={s1 with heap:=s1.heap.push _}) (H:=H1) V O R3 F2 (F2.pI N3) f3 (O3 (by simp[Obj.isFreed])) (N3.weak fun J z=>z.elim) ⟨_,_,aJ _ rfl⟩ q1) fun r s' z=>?_;have N12:=(N1.trans N2).up (W:=W);induction r using fA with
 |ok f=>exact NJ.after N12 z
 |error e=>exact aB z (fun J J z=>C.en N12 z) fun J J z=>C.en N12 z
end
end
section
variable[Inhabited Tg]
noncomputable def vI(ks:List Int)(led:Bool):SetTable:={mask:=7,place:=(ks.map Int.toNat).toArray,dummies:= #[],finger:=0,led:=led,moves:=0,plain:=true}
inductive AD:List (Int×ai)->List Int->Prop where
 |nil:AD [] []
 |cons {k t es ks} (q:AD es ks):AD ((k,.int k t)::es) (k::ks)
def xX(es:List (Int×ai))(ep:Nat)(ks:List Int)(led:Bool):Obj:=⟨.type "set",none,.set es.toArray ep (vI ks led),#[]⟩
inductive Oi(h:bp)(a:Addr)(led:Bool)(ks:List Int):Prop where
 |mk (es:List (Int×ai)) (ep:Nat) (o:h.get? a=some (xX es ep ks led)) (q:AD es ks)
inductive Ks:List Int->Prop where
 |e:Ks []
 |a:Ks [1]
 |b:Ks [2]
 |c:Ks [1,2]
noncomputable def AE(k:Int)(ks:List Int):List Int:=if k∈ks then ks else if k=1 then 1::ks else ks++[k]
theorem Ks.ins(hk:k=1\/k=2):∀{ks:List Int},Ks ks->Ks (AE k ks)/\∀j,j∈AE k ks↔j∈ks\/j=k:=by intro ks h;rcases hk with e|e<;>subst e<;>induction h using Ks.casesOn<;>exact⟨by dsimp only[AE];first|exact .a|exact .b|exact .c,fun j=>by simp[AE]<;>first|exact or_comm|exact fun z=>.inl z|exact fun z=>.inr z⟩
section
variable{prog:Program}{w:aP}{A:aU}{E:ai->Shared->Prop}{s:Shared}{a:Addr}{led:Bool}{ks:List Int}
theorem Z2:cY k (.int k t)=true:=by simp[cY]
theorem AD.elems:∀{es:List (Int×ai)} {ks:List Int},AD es ks->(∀k∈ks,k=1\/k=2)->ElemsOf (bD prog w) es
 |_,_,.nil,_=>fun e he=>nomatch he
 |_,_,.cons (t:=t) q,h=>fun e he=>by
  rcases aA.mp he with z|he
  ·subst z
   refine⟨⟨_,Z2 (t:=t),?_⟩,rfl⟩
   rcases h _ (.head _)with e|e<;>subst e<;>rfl
  ·exact q.elems (fun k hk=>h k (.tail _ hk)) e he
theorem Ks.b12(h:Ks ks):∀k∈ks,k=1\/k=2:=by induction h using Ks.casesOn<;>simp
theorem Ks.fits(h:Ks ks)(q:AD es ks)(led:Bool):(vI ks led).fits es.toArray.size=true:=by
 induction h using Ks.casesOn
 ·cases q;rfl
 ·cases q with|cons q=>cases q;rfl
 ·cases q with|cons q=>cases q;rfl
 ·cases q with|cons q=>cases q with|cons q=>cases q;rfl
theorem W2:Obj.putSet tK.toArray (vI GJ led) (xX es ep ks led)=xX tK (ep+1) GJ led:=rfl
theorem Ks.small(h:Ks ks)(q:AD es ks):es.toArray.size<scanBound:=by
 have hl:es.length=ks.length:=by
  clear h;induction q with
  |nil=>rfl
  |cons _ ih=>exact congrArg Nat.succ ih
 show es.length<4096;refine hl▸?_;repeat first|clear ks|clear es|clear q|clear hl
 induction h using Ks.casesOn<;>decide
theorem AD.find:∀{es:List (Int×ai)} {ks:List Int},AD es ks->(k∈ks->∃j,es.findIdx? (fun e=>cY k e.2)=some j)/\(k∉ks->es.findIdx? (fun e=>cY k e.2)=none)
 |_,_,.nil=>⟨fun h=>(nomatch h),fun J=>rfl⟩
 |_,_,.cons (k:=j) (t:=t) q=>by
  refine lF▸?_
  by_cases e:k=j
  ·subst e
   exact(if_pos Z2)▸(⟨fun J=>⟨0,rfl⟩,fun n=>absurd (.head _) n⟩)
  ·refine(if_neg (fun z=>e (Value.isInt_inj (.int j t) k j z Z2)))▸?_
   refine⟨fun h=>?_,fun n=>?_⟩
   ·obtain⟨i,hi⟩:=(q.find (k:=k)).1 ((aA.mp h).resolve_left e)
    exact⟨i+1,by refine hi▸?_;rfl⟩
   ·refine((q.find (k:=k)).2 fun z=>n (.tail _ z)).symm▸?_;rfl
theorem Oj(GH:k=1\/k=2)(hk:Ks ks)(n:k∉ks)(q:AD es ks)(tok:Tok)(led:Bool):∃tK,AD tK (AE k ks)/\layNew (vI ks led) es.toArray k (.int k tok)=(tK.toArray,vI (AE k ks) led,false,false)/\(vI (AE k ks) led).tooFull=false:=by
 rcases GH with e|e<;>subst e<;>induction hk using Ks.casesOn
 ·cases q;exact⟨[(1,.int 1 tok)],.cons .nil,by kernel_rfl,by kernel_rfl⟩
 ·exact absurd (.head _) n
 ·cases q with| @cons _ t0 _ _ q=>cases q;exact⟨[(1,.int 1 tok),(2,.int 2 t0)],.cons (.cons .nil),by kernel_rfl,by kernel_rfl⟩
 ·exact absurd (.head _) n
 ·cases q;exact⟨[(2,.int 2 tok)],.cons .nil,by kernel_rfl,by kernel_rfl⟩
 ·cases q with| @cons _ t0 _ _ q=>cases q;exact⟨[(1,.int 1 t0),(2,.int 2 tok)],.cons (.cons .nil),by kernel_rfl,by kernel_rfl⟩
 ·exact absurd (.head _) n
 ·exact absurd (.tail _ (.head _)) n
theorem KO(hk:Ks ks)(GH:k=1\/k=2)(h:Oi s.heap a led ks)(K:∀h',oq a s.heap h'->Oi h' a led (AE k ks)->Q .none {s with heap:=h',toks:=s.toks+1}):
  aE (aD prog w) A (call (.builtin "set.add") [.ref a,.int k tok]) Q E s:=by
 obtain⟨es,ep,ho,q⟩:=h;have hT:s.TypeIs (.ref a) "set":=⟨_,ho,rfl⟩;have HN:(bD prog w).is k (.int k tok)=true:=Z2 (t:=tok);have hel:=q.elems (prog:=prog) (w:=w) hk.b12;have hf:=hk.fits q led;have hh:(bD prog w).hash k=k:=by rcases GH with e|e<;>subst e<;>rfl
 refine cW F.slot_set_add hT F.entry_set_add ?_ (F.args_set_add_2 _ _);unfold Builtin.«set.add» nK;simp only[ml,bind_assoc];refine af (az ?_);try dsimp only
 refine af (az ?_);try dsimp only
 refine af ?_;refine cC ?_;refine af ((bD prog w).pyHash HN ?_);refine cC (af (gB (s:={s with toks:=s.toks+1}) ho rfl hf ?_));dsimp only;rw[byScan_of rfl (hk.small q) hel];refine af ?_;refine af (hN ?_);refine af (wpAny_setScan_of (s:={s with toks:=s.toks+1}) HN ho rfl hf hel ?_);refine hh.symm▸?_;by_cases m:k∈ks
 ·obtain⟨j,hj⟩:=q.find.1 m;refine(show nL (fun e=>(bD prog w).is k e.snd) es.toArray.toList=some j from hj)▸?_;refine az (az ?_);refine az ⟨_,rfl,?_⟩;refine K s.heap (ph a s.heap) ?_;refine(show AE k ks=ks from if_pos m).symm▸?_;exact⟨es,ep,ho,q⟩
 ·refine(show nL (fun e=>(bD prog w).is k e.snd) es.toArray.toList=none from q.find.2 m)▸?_;obtain⟨tK,q',e1,e2⟩:=Oj GH hk m q tok led;refine e1▸?_;refine af (az ?_);refine af ?_;rw[hashByValue_scannable 8 rfl];refine az ?_;simp only[show plainKind (gU k tok)=true from rfl,if_true];refine af (wpAny_storeSet_of (s:={s with toks:=s.toks+1}) ho rfl ?_ (fits_of_scanBound ((hk.ins GH).1.small q')));refine e2.symm▸?_;refine az (az ?_);refine az ⟨_,rfl,?_⟩;refine K _ (Heap.SameBut.update s.heap a _) ⟨tK,ep+1,?_,q'⟩;exact eC (Obj.putSet tK.toArray (vI (AE k ks) led)) ho rfl
end
end
section
variable[Inhabited Tg]
theorem rE:PySem.Slot "set_iterator" "__next__" "set_iterator.__next__":=
 .of (owner:="set_iterator") (n:="__next__") (by rw[jM,gV];kernel_rfl) (by decide+kernel) (by decide+kernel) (by decide+kernel)
  (by first|exact .inl (by decide+kernel)|exact .inr (by decide+kernel)) (by rw[iB];kernel_rfl)
theorem wu:ou table "set_iterator.__next__"=some Builtin.«set_iterator.__next__»:=entryFor_of_tree (by kernel_rfl)
theorem xg(a:ai):ki "set_iterator.__next__" ⟨[a],[]⟩:=by unfold ki;kernel_rfl
theorem xh:PySem.Slot "set_iterator" "__iter__" "set_iterator.__iter__":=
 .of (owner:="set_iterator") (n:="__iter__") (by rw[jM,gV];kernel_rfl) (by decide+kernel) (by decide+kernel) (by decide+kernel)
  (by first|exact .inl (by decide+kernel)|exact .inr (by decide+kernel)) (by rw[iB];kernel_rfl)
theorem BM(a:ai):ki "set_iterator.__iter__" ⟨[a],[]⟩:=by unfold ki;kernel_rfl
theorem zj:ou table "set.__iter__"=some Builtin.«frozenset.__iter__»:=
 mW (id':="frozenset.__iter__") (by kernel_rfl) rfl (by decide+kernel) (by kernel_rfl)
theorem AF:ou table "set_iterator.__iter__"=some Builtin.«dict_keyiterator.__iter__»:=
 mW (id':="dict_keyiterator.__iter__") (by kernel_rfl) rfl (by decide+kernel) (by kernel_rfl)
end
section
variable[Inhabited Tg]
noncomputable def tC(w:aP):Bool:=w.params.followText "set-order"
noncomputable def U8(slot i:Int)(a:Addr)(n:Nat)(ep:Nat):Obj:=⟨.type "set_iterator",none,.fields #[.int slot 0,.int i 0,.ref a,.int n 0,.int ep 0],#[]⟩
def xY(w:aP)(a:Addr)(ep:Nat)(es:List (Int×ai)):List (Int×ai):=if tC w then(pickOrder (w.params.setOrder a ep) es.toArray).toList else es
def tf(w:aP)(ks:List Int):Nat->Nat
 |0=>0
 |i+1=>if tC w then 0 else(ks.getD i 0).toNat+1
section
variable{prog:Program}{w:aP}{A:aU}{E:ai->Shared->Prop}{s:Shared}{a it:Addr}{ks:List Int}{es:List (Int×ai)}{ep:Nat}
theorem zq:∀{l:List α} {i:Nat} (h:i<l.length),(l[i]::l.eraseIdx i).Perm l
 |x::r,0,h=>.refl _
 |x::r,i+1,h=>(List.Perm.swap x (r[i]'(dA h)) (r.eraseIdx i)).trans ((zq (dA h)).cons x)
theorem Ol(next:Nat->Nat):∀(fuel k:Nat) (left:List α) (out:Array α),left.length<=fuel->(ox next fuel k left out).toList.Perm (out.toList++left):=by
 intro fuel;induction fuel with
 |zero=>
  exact fun k left out h=>by
   induction left using aH with
   |nil=>rw[aO];exact .refl _
   |cons x r=>exact absurd h (eK _)
 |succ fuel Om=>
  exact fun k left out h=>by
   unfold ox;induction left using aH with
   |nil=>rw[aO];exact .refl _
   |cons x r=>
    have hi:next k%(x::r).length<(x::r).length:=Nat.mod_lt _ (cH _);generalize next k%(x::r).length=i at hi;rw[bc hi];refine(Om (k+1) ((x::r).eraseIdx i) (out.push (x::r)[i]) ?_).trans ?_
    ·rw[List.length_eraseIdx_of_lt hi];exact fJ h
    ·rw[Array.toList_push,ax];exact(zq hi).append_left _
theorem Ig(next:Nat->Nat)(es:List α):(pickOrder next es.toArray).toList.Perm es:=by have:=Ol next es.toArray.size 0 es.toArray.toList #[] (aF _);exact this
theorem xj:(xY w a ep es).Perm es:=by
 unfold xY;split
 ·exact Ig _ es
 ·exact .refl _
theorem Oo(hb:tC w=false)(hk:Ks ks)(q:AD es ks)(hi:i<=es.length):(match es.toArray[SetTable.below (vI ks true).place (tf w ks i)]?,(vI ks true).place[SetTable.below (vI ks true).place (tf w ks i)]? with
  |some (_,x),some j=>some (x,j+1)
  |_,_=>none)=(es[i]?).map fun e=>(e.2,tf w ks (i+1)):=by
 have z0:tf w ks 0=0:=rfl;have z1:∀n,tf w ks (n+1)=(ks.getD n 0).toNat+1:=fun n=>by simp[tf,hb]
 induction i using bz with
 |zero=>
  rw[z0,z1];repeat first|clear hb|clear z0|clear e|clear n
  induction hk using Ks.casesOn
  ·cases q;kernel_rfl
  ·cases q with|cons q=>cases q;kernel_rfl
  ·cases q with|cons q=>cases q;kernel_rfl
  ·cases q with|cons q=>cases q with|cons q=>cases q;kernel_rfl
 |succ i=>
  rw[z1,z1];induction hk using Ks.casesOn
  ·cases q;exact absurd hi (eK _)
  ·cases q with|cons q=>cases q;induction i using bz with
    |zero=>kernel_rfl
    |succ i=>exact absurd (d7 hi) (eK _)
  ·cases q with|cons q=>cases q;induction i using bz with
    |zero=>kernel_rfl
    |succ i=>exact absurd (d7 hi) (eK _)
  ·cases q with|cons q=>cases q with|cons q=>cases q;induction i using bz with
    |zero=>kernel_rfl
    |succ i=>induction i using bz with
     |zero=>kernel_rfl
     |succ i=>exact absurd (d7 (d7 hi)) (eK _)
theorem Dm(hk:Ks ks)(q:AD es ks)(ho:s.heap.get? a=some (xX es ep ks (!tC w)))(hi:i<=es.length)
  (h:Q (((xY w a ep es)[i]?).map fun e=>(e.2,tf w ks (i+1))) s):aE (aD prog w) A (setNext a (tf w ks i) i ep) Q E s:=by
 refine af (gB ho rfl (hk.fits q (!tC w)) ?_);refine af (af (eT (az ?_)));show aE _ _ (if tC w=true then _ else _) Q E s;cases hb:tC w with
 |true=>rw[if_pos rfl,if_neg (by simp)];refine af (af (gB ho rfl (hk.fits q (!tC w)) ?_));refine af (af (eT (az ?_)));refine(if_pos hb)▸?_;refine af (eT (az (az ?_)));refine(show tf w ks i=tf w ks (i+1) by induction i using bz<;>simp[tf,hb])▸?_;unfold xY at h;rw[if_pos hb,dH]at h;exact h
 |false=>refine af (cR (a:=()) rfl ?_);refine az ?_;unfold xY at h;rw[hb,if_neg (by simp),<-Oo hb hk q hi]at h;exact h
end
end
section
variable[Inhabited Tg]
section
variable{prog:Program}{w:aP}{A:aU}{E:ai->Shared->Prop}{s:Shared}{a it:Addr}{ks:List Int}{es:List (Int×ai)}{ep:Nat}{i j:Int}{n:Nat}
theorem KP(hk:Ks ks)(q:AD es ks)(ho:s.heap.get? a=some (xX es ep ks (!tC w)))
  (h:Q (.ref s.heap.objs.size) {s with heap:=s.heap.push (U8 0 0 a es.length ep)}):aE (aD prog w) A (kh (.ref a)) Q E s:=by
 refine lT (⟨_,ho,rfl⟩) F.slot_set_iter (cW F.slot_set_iter (⟨_,ho,rfl⟩) zj ?_ (F.args_set_iter_1 _));unfold Builtin.«frozenset.__iter__» oE oz;simp only[ml,nA,lH,↓reduceIte,bind_assoc,bZ,bne_self_eq_false];refine af (az ?_);try dsimp only
 refine af (az ?_);refine af (af (iz ho rfl (hk.fits q (!tC w)) (az ?_)));refine af (af (gB ho rfl (hk.fits q (!tC w)) ?_));refine af (af (eT (az (az ?_))));rw[if_neg (show ¬(_=true)from fun z=>by have:=(show∀(b:Bool),(!b&& !(vI ks (!tC w)).plain&&decide (es.toArray.size>1))=false from fun b=>by induction b using aX<;>rfl) ({program:=(aD prog w).prog,params:=(aD prog w).w.params:Setting}.params.followText "set-order");rw[mX]at this;exact f5 (this.symm.trans z))];refine af (az ?_);refine af (wpAny_setEpoch_of ho rfl (hk.fits q (!tC w)) ?_);refine af (cN (az ⟨_,rfl,"set_iterator",_,⟨_,aJ _ rfl,rfl⟩,rE.lookup,h⟩))
theorem Oq(ho:s.heap.get? it=some (U8 i j a n ep))(h:Q (.ref it) s):aE (aD prog w) A (kh (.ref it)) Q E s:=by refine lT (⟨_,ho,rfl⟩) xh (cW xh (⟨_,ho,rfl⟩) AF ?_ (BM _));exact az ⟨_,rfl,"set_iterator",_,(⟨_,ho,rfl⟩),rE.lookup,h⟩
theorem Ot(hk:Ks ks)(q:AD es ks)(ho:s.heap.get? a=some (xX es ep ks (!tC w))){i:Nat}(hi:s.heap.get? it=some (U8 (tf w ks i) i a es.length ep))(he:(xY w a ep es)[i]? =some e)
  (h:∀h',oq it s.heap h'->h'.get? it=some (U8 (tf w ks (i+1)) ((i:Int)+1) a es.length ep)->Q (some e.2) {s with heap:=h'}):aE (aD prog w) A (jt (.ref it)) Q E s:=by
 have hle:i<=es.length:=by have:=(bK.mp he).1;rw[(xj (w:=w) (a:=a) (ep:=ep)).length_eq]at this;exact bC this
 refine af (kU (dY (name:=bj "__next__") (⟨_,hi,rfl⟩) rE (cW rE (⟨_,hi,rfl⟩) wu ?_ (xg _))));refine af (m:=oz "__next__" 0 ⟨[iR it],[]⟩) (cR (a:=(iR it,[])) rfl ?_);refine af (mY hi rfl ?_);dsimp only;refine af (iz ho rfl (hk.fits q (!tC w)) ?_);rw[if_neg (by simp),cZ,cZ,cZ];refine af (Dm hk q ho hle ?_);refine he▸?_;refine af (iE hi rfl (av rfl) ?_);refine af (iE (eC (Obj.mapFields (·.setIfInBounds 0 (kj (tf w ks (i+1))))) hi rfl) rfl (av rfl) ?_);exact az ⟨_,rfl,az (h _ ((Heap.SameBut.update ..).trans (Heap.SameBut.update ..)) (eC (Obj.mapFields (·.setIfInBounds 1 (kj ((i:Int)+1)))) (eC (Obj.mapFields (·.setIfInBounds 0 (kj (tf w ks (i+1))))) hi rfl) rfl))⟩
theorem Ou(hh:A.handled=none)(hk:Ks ks)(q:AD es ks)(ho:s.heap.get? a=some (xX es ep ks (!tC w)))(hi:s.heap.get? it=some (U8 (tf w ks es.length) es.length a es.length ep))
  (h:∀h',j0 it s.heap h'->Q none {s with heap:=h'}):aE (aD prog w) A (jt (.ref it)) Q E s:=by refine af (kU (dY (name:=bj "__next__") (⟨_,hi,rfl⟩) rE (cW rE (⟨_,hi,rfl⟩) wu ?_ (xg _))));refine af (m:=oz "__next__" 0 ⟨[iR it],[]⟩) (cR (a:=(iR it,[])) rfl ?_);refine af (mY hi rfl ?_);dsimp only;refine af (iz ho rfl (hk.fits q (!tC w)) ?_);rw[if_neg (by simp),cZ,cZ,cZ];refine af (Dm hk q ho (aF _) ?_);refine(show(xY w a ep es)[es.length]? =none from kq (by refine(xj (w:=w) (a:=a) (ep:=ep)).length_eq.symm▸?_;exact aF _))▸?_;refine af (iE hi rfl (av rfl) ?_);refine af ?_;refine af (cN ?_ (by size_fits));refine af (m:=iF _ _) (cR (a:=Value.none) (by first|rfl|(simp only[iF];rfl)) ?_);refine cN ?_ (by size_fits);refine af (wpAny_handled ?_);refine(show A.in1.handled=none from hh).symm▸?_;refine af (az (wpAny_throw ?_));refine af (gN (T:="StopIteration") (b:=true) ⟨_,aJ _ rfl,rfl⟩ mV ?_);exact az (h _ (((Heap.SameBut.update ..).extBut.push _).push _))
theorem KQ(hT:s.TypeIs (.ref a) "set")(h:Q false s):aE (aD prog w) A (iK (.ref a)) Q E s:=by refine af (jL hT PySem.F.slot_set_len.lookup ?_);generalize U5:("set.__len__":String)=id0;subst U5;wp_delta;refine af (gN (T:="set") (b:=true) hT (by rw[iB];kernel_rfl) ?_);refine eA (fun Ko=>absurd Ko ⋯) (fun J=>?_);refine eA (fun J=>?_) (fun Ko=>absurd (by decide+kernel) Ko);refine af (gc hT ?_);exact az h
theorem Ih(hh:A.handled=none)(hk:Ks ks)(q:AD es ks)(I a:Addr)(Hq:a≠I):Walks prog w A I [I,a] [I] es.length (fun i v=>∃e,(xY w a ep es)[i]? =some e/\v=e.2) (fun i h=>h.get? I=some (U8 (tf w ks i) i a es.length ep)/\h.get? a=some (xX es ep ks (!tC w))) where
 sub:=fun b hb=>by simp at hb;simp[hb]
 frame:=fun J J J st hk=>⟨hk I (by simp) _ st.1,hk a (by simp) _ st.2⟩
 item:=fun i s Q E hi st hQ=>by
  have hl:i<(xY w a ep es).length:=by refine(xj (w:=w) (a:=a) (ep:=ep)).length_eq.symm▸?_;exact hi
  refine Ot hk q st.2 st.1 (bc hl) fun h' sb hi'=>?_
  exact hQ _ h' s.toks ⟨_,bc hl,rfl⟩ ⟨hi',sb.extBut a _ Hq st.2⟩ fun b o hb e=>sb.extBut b o (fun h=>hb (by simp[h])) e
 done:=fun s Q E st hQ=>Ou hh hk q st.2 st.1 fun h' he'=>hQ h' s.toks fun b o hb e=>he' b o (fun h=>hb (by simp[h])) e
 self:=fun J J J J st hQ=>Oq st.1 hQ
theorem Ow(hk:Ks ks)(q:AD es ks):KdlSrc prog w "set" a a es.length (fun i v=>∃e,(xY w a ep es)[i]? =some e/\v=e.2) (fun h=>h.get? a=some (xX es ep ks (!tC w))) where
 type:=fun J h=>⟨_,h,rfl⟩
 there:=fun J h=>⟨br h,br h⟩
 keep:=fun J J h k=>k a (.inl rfl) _ h
 notList:=by decide
 notTuple:=by decide
 hint:=fun J J J J h hq=>KQ ⟨_,h,rfl⟩ hq
 iter:=fun A s hh h=>⟨_,_,fun E Q hq=>KP hk q h hq,Ih (A:=A) hh hk q s.heap.objs.size a (cI (br h)),⟨aJ _ rfl,ay _ h⟩⟩
end
end
section
variable[Inhabited Tg]
section
variable{c:Cfg}{A:aU}{W:Addr->Prop}{Ef:EF}
inductive CA(c:Cfg)(W:Addr->Prop)(H:MH)(s:Shared)(D:Addr)(acc:List Int):Prop where
 |mk (O:Off c W H s D) (ks:List Int) (hk:Ks ks) (e:Oi s.heap D (!tC c.w) ks) (nd:acc.Nodup) (m:∀k,k∈acc↔k∈ks)
theorem CA.next{X:Addr->Prop}(K:CA c W H s D acc)(nX:¬X D)(N:Nx X H s H' s'):CA c W H' s' D acc:=by obtain⟨O,ks,hk,⟨es,ep,e,q⟩,nd,m⟩:=K;exact⟨⟨(N.keep D _ O.ng nX e O.rM).2,O.nB,O.ng,⟨_,(N.keep D _ O.ng nX e O.rM).1,qq rfl ⋯ ⋯⟩⟩,ks,hk,⟨es,ep,(N.keep D _ O.ng nX e O.rM).1,q⟩,nd,m⟩
theorem CA.add(K:CA c W H s D acc)(R:Rel c.w.params c.B H s.heap)(GH:k=1\/k=2)
  (h:∀s',Rel c.w.params c.B H s'.heap->Nx (fun b=>b=D) H s H s'->CA c W H s' D (wC k acc)->Q .none s'):aE (aD c.prog c.w) A (call (.builtin "set.add") [.ref D,.int k t]) Q E s:=by
 obtain⟨O,ks,hk,e,nd,m⟩:=K;refine KO hk GH e fun h' sb e'=>?_;obtain⟨es,ep,g,q⟩:=e';refine h _ (O.step (h':=h') (tk:=s.toks+1) R fun b o n g=>sb.extBut b o n g).1 (O.step (h':=h') (tk:=s.toks+1) R fun b o n g=>sb.extBut b o n g).2.1 ⟨⟨(O.step (h':=h') (tk:=s.toks+1) R fun b o n g=>sb.extBut b o n g).2.2,O.nB,O.ng,_,g,qq rfl ⋯ ⋯⟩,_,(hk.ins GH).1,⟨es,ep,g,q⟩,?_,fun j=>?_⟩
 ·unfold wC;split
  ·exact nd
  ·rename_i n;exact cM.mpr ⟨nd,dX _ _,fun a ha b hb e=>n (by rw[aI]at hb;exact hb▸e▸ha)⟩
 ·rw[(hk.ins GH).2];unfold wC;split
  ·rename_i hm;rw[m];exact⟨.inl,fun z=>z.elim id fun e=>e▸(m _).mp hm⟩
  ·rw[aM,aI,m]
inductive ag1(c:Cfg)(W:Addr->Prop)(I D:Addr)(H0:MH)(s0:Shared)(env:Env)(Γ:List (PySem.Str×Bool))(At:Nat->bp->Prop)(l:List Mine.Internal.V)(f:List Mine.Internal.V->List Int->Loc->MH->(List Int->Loc->MH->Prop)->Prop)(K:List Int->Loc->MH->Prop)(k:Nat)(s':Shared):Prop where
 |mk (qp:Loc) (H':MH) (acc:List Int) (i:Nat) (e:k=l.length - i) (R:Rel c.w.params c.B H' s'.heap) (N:Nx (uL W I D) H0 s0 H' s') (F:pU W c.B H' s'.heap env Γ qp) (O:Off c W H' s' I) (a:CA c W H' s' D acc) (at_:At i s'.heap) (hi:i<=l.length) (q:f (l.drop i) acc qp H' K)
theorem Dn(C:c.Ok A W E0){elt tg iter:Expr}{gens:List eF}(IT:Iter c A l ok tg I At)
  {f:List Int->Loc->MH->(List Int->Loc->MH->Prop)->Prop}{emit:Sem PySem.Fin->Sem PySem.Fin}
  (htn:∀x acc r H K,turn x acc r H K->wA c.Θ c.call t x r H (fun r' H2=>f acc r' H2 K) ub)
  (heq:PySem.compTurn (.SetComp elt gens scope pos) dp (.ref I) (.ref D) env=(do
   iG iter.pos
   match <-jt (.ref I)with
   |none=>cL (.done .next)
   |some v=>
    dy tg (.ref I) v
    fv tg env v
    emit (again (.compLoop (.SetComp elt gens scope pos) dp (.ref I) (.ref D) env))))
  (a1:yE c A W E0 Γ tg t)(Cz:∀v,dy tg (.ref I) v=cL ())
  {K:List Int->Loc->MH->Prop}(V:qG env Γ)
  (Ql:∀b,(b=env.locals\/∃x,env.cells.lookup x=some b)->¬b=I)(Qm:∀b,(b=env.locals\/∃x,env.cells.lookup x=some b)->¬b=D)(Je:I≠D)(Od:¬W I)(U6:¬W D)
  (em:∀acc U H s Q m RR EE,Rel c.w.params c.B H s.heap->pU W c.B H s.heap env Γ.pl U->CA c W H s D acc->f acc U H Q->(∀s' qp H' sD,Rel c.w.params c.B H' s'.heap->Nx (fun b=>W b\/b=D) H s H' s'->pU W c.B H' s'.heap env Γ.pl qp->CA c W H' s' D sD->Q sD qp H'->aE (aD c.prog c.w) A m RR EE s')->aE (aD c.prog c.w) A (emit m) RR EE s)
  (fin:∀s' qp H' acc,Rel c.w.params c.B H' s'.heap->Nx (uL W I D) H0 s0 H' s'->pU W c.B H' s'.heap env Γ.pl qp->CA c W H' s' D acc->K acc qp H'->RR (.ok .next) s')
  (R:Rel c.w.params c.B H s.heap)(F:pU W c.B H s.heap env Γ.pl U)(N0:Nx (uL W I D) H0 s0 H s)(hO:Off c W H s I)(hA:CA c W H s D W3)(h0:At 0 s.heap)(q:Jd turn ok l W3 U H K):
  eB (aD c.prog c.w) A (.compLoop (.SetComp elt gens scope pos) dp (.ref I) (.ref D) env) RR s:=by
 have wI:∀{H1 s1 H2 s2},Nx (fun b=>b=I) H1 s1 H2 s2->Nx (uL W I D) H1 s1 H2 s2:=fun N=>N.weak fun J z=>.inl (.inr z);have wX:∀{H1 s1 H2 s2},Nx (fun b=>W b\/b=D) H1 s1 H2 s2->Nx (uL W I D) H1 s1 H2 s2:=fun N=>N.weak fun J z=>z.elim (fun z=>.inl (.inl z)) .inr;have wW:∀{H1 s1 H2 s2},Nx W H1 s1 H2 s2->Nx (uL W I D) H1 s1 H2 s2:=fun N=>N.weak fun J z=>.inl (.inl z);refine codeAny_loop rfl (ag1 c W I D H0 s0 env Γ.pl At l (Jd turn ok) K) ?_ l.length ⟨U,H,W3,0,rfl,R,N0,F,hO,hA,h0,bW _,q⟩;rintro k s' ⟨qp,H',acc,i,rfl,R',N',F',O',K',at',hi,q'⟩;show aE _ A ((PySem.compTurn (.SetComp elt gens scope pos) dp (.ref I) (.ref D) env).onRaise (fun x=>do noteFrame x env;theTreesLotGoes x)) _ _ _;refine wpAny_noted ?_;refine heq▸?_;refine af (dh (af ?_));by_cases yZ:i<l.length
 ·have q':=(dK yZ)▸q';have Wy:=q'.1;have q':=q'.2;have q':=htn _ _ _ _ _ q';refine IT.item i l[i] H' s' _ _ (bc yZ) at' R' Wy fun v h' tk rv Wz k' go=>?_;have Ax:=O'.step (tk:=tk) R' k';have F1:pU W c.B H' h' env Γ.pl qp:=F'.next (s':={s' with heap:=h',toks:=tk}) Ql Ax.2.1;have O1:Off c W H' {s' with heap:=h',toks:=tk} I:=⟨Ax.2.2,O'.nB,O'.ng,Wz⟩;have K1:=K'.next (fun z=>Je z.symm) Ax.2.1;refine af (go _ _ fun yu C5 WA=>?_);obtain⟨oI,eI,nI⟩:=IT.there _ _ C5;have uw:=O1.step (tk:=tk) Ax.1 WA;have F2:pU W c.B H' yu env Γ.pl qp:=pU.next (s:={s' with heap:=h',toks:=tk}) (s':={s' with heap:=yu,toks:=tk}) F1 Ql uw.2.1;have K2:=CA.next (s:={s' with heap:=h',toks:=tk}) (s':={s' with heap:=yu,toks:=tk}) K1 (fun z=>Je z.symm) uw.2.1;have O2:Off c W H' {s' with heap:=yu,toks:=tk} I:=⟨uw.2.2,O'.nB,O'.ng,oI,eI,nI⟩;have Na:=(N'.trans (wI Ax.2.1)).trans (wI uw.2.1);refine af (aB (a1 env qp H' {s' with heap:=yu,toks:=tk} l[i] v _ ub V uw.1 F2 (rv.mono uw.2.1.qb) q') (fun J s3 z=>?_) fun J J z=>z.elim);obtain⟨U4,H3,R3,N3,F3,q3⟩:=z;have K3:=K2.next U6 N3;refine em _ _ _ _ _ _ _ _ R3 F3 K3 q3 fun s4 Qi H4 ag2 R4 N4 F4 K4 q4=>?_;have n4:¬(W I\/I=D):=fun z=>z.elim Od Je;have O4:=(O2.next Od N3).next n4 N4;have Z0:=IT.frame (i+1) _ s4.heap C5 (fun o e=>let z:=N3.keep I o O2.ng Od e O2.rM;(N4.keep I o O2.ng n4 z.1 z.2).1) (N3.qb.trans N4.qb);exact az ⟨rfl,l.length - (i+1),(Z.sb yZ),Qi,H4,ag2,i+1,rfl,R4,(Na.trans (wW N3)).trans (wX N4),F4,O4,K4,Z0,yZ,q4⟩
 ·obtain rfl:i=l.length:=(Z.ctn hi yZ);have q':=ju▸q';refine IT.done H' s' _ _ at' R' q'.1 fun h' tk k'=>?_;obtain⟨R1,N1,ZY⟩:=O'.step (tk:=tk) R' k';exact az (fin _ qp H' acc R1 (N'.trans (wI N1)) (F'.next (s':={s' with heap:=h',toks:=tk}) Ql N1) (K'.next (fun z=>Je z.symm) N1) q'.2)
end
end
section
variable[Inhabited Tg]
section
variable{c:Cfg}{A:aU}{W:Addr->Prop}{Ef:EF}
theorem Dp(elt MP Ox yo wK:Expr)(scope:iH)(pos:Pos)(it acc:ai)(env:Env):
  PySem.compTurn (.SetComp elt [⟨MP,Ox,[],0⟩,⟨yo,wK,[],0⟩] scope pos) 1 it acc env=(do
   iG wK.pos
   match <-jt it with
   |none=>cL (.done .next)
   |some v=>
    dy yo it v
    fv yo env v
    (do let v <-fE elt env;iG elt.pos;let _ <-call (.builtin "set.add") [acc,v])
    again (.compLoop (.SetComp elt [⟨MP,Ox,[],0⟩,⟨yo,wK,[],0⟩] scope pos) 1 it acc env)):=by rfl
theorem Dq(elt MP Ox yo wK:Expr)(scope:iH)(pos:Pos)(it acc:ai)(env:Env):
  PySem.compTurn (.SetComp elt [⟨MP,Ox,[],0⟩,⟨yo,wK,[],0⟩] scope pos) 0 it acc env=(do
   iG Ox.pos
   match <-jt it with
   |none=>cL (.done .next)
   |some v=>
    dy MP it v
    fv MP env v
    let x <-fE wK env
    iG wK.pos
    let x <-lU wK env x
    let _ <-runOwn (.compStart (.SetComp elt [⟨MP,Ox,[],0⟩,⟨yo,wK,[],0⟩] scope pos) 1 (<-lL [x] (kh x)) acc env) env
    again (.compLoop (.SetComp elt [⟨MP,Ox,[],0⟩,⟨yo,wK,[],0⟩] scope pos) 0 it acc env)):=by rfl
theorem zr(hg:gens[dp]? =some g)(ha:g.is_async=0)
  (h0:eB (aD prog w) A (.compLoop (.SetComp elt gens scope pos) dp it acc env) R s)
  (h:aE (aD prog w) A (kh it) (fun it' s'=>eB (aD prog w) A (.compLoop (.SetComp elt gens scope pos) dp it' acc env) R s') (notedBy (aD prog w) A env fun x s'=>R (.error x) s') s):
  eB (aD prog w) A (.compStart (.SetComp elt gens scope pos) dp it acc env) R s:=by
 refine mC ?_;refine wpAny_notedAt ?_;unfold compStart;refine(show clausesOf (.SetComp elt gens scope pos)=gens from rfl).symm▸?_;refine hg.symm▸?_;simp only[Option.elim,ha,bne_self_eq_false,lH,↓reduceIte];refine af (eT (wpAny_ite ?_));split
 ·exact az ⟨rfl,h0⟩
 ·exact af (hN (af (dh (af (aB h (fun it' s' h'=>az (And.intro rfl h')) fun J J x=>x)))))
def Oy(c:Cfg)(xe:X):List Int->Loc->MH->(List Int->Loc->MH->Prop)->Prop:=fun acc r H K=>wE c.Θ c.call xe r H (fun v H3=>∃i,v=.int i/\(i=1\/i=2)/\K (wC i acc) r H3) ub
def GK(c:Cfg)(t2:T)(x2 xe:X):List Int->Loc->MH->(List Int->Loc->MH->Prop)->Prop:=fun acc r H K=>wE c.Θ c.call x2 r H (fun y H3=>qr H3 (fun l2 Rf=>l2.length<=pq/\Jd (fun y acc r H K=>wA c.Θ c.call t2 y r H (fun r' H2=>Oy c xe acc r' H2 K) ub) Rf l2 acc r H3 K) y) ub
theorem Oz(C:c.Ok A W E0)(a3:qK c A W E0 Γ elt xe)(V:qG env Γ)(Qm:∀b,(b=env.locals\/∃x,env.cells.lookup x=some b)->¬b=D):∀acc U H s Q (m:Sem PySem.Fin) RR EE,Rel c.w.params c.B H s.heap->pU W c.B H s.heap env Γ.pl U->CA c W H s D acc->Oy c xe acc U H Q->
  (∀s' qp H' sD,Rel c.w.params c.B H' s'.heap->Nx (fun b=>W b\/b=D) H s H' s'->pU W c.B H' s'.heap env Γ.pl qp->CA c W H' s' D sD->Q sD qp H'->aE (aD c.prog c.w) A m RR EE s')->
  aE (aD c.prog c.w) A (do
    (do let v <-fE elt env;iG elt.pos;let _ <-call (.builtin "set.add") [.ref D,v])
    m) RR EE s:=fun acc U H s Q m RR EE R F K q k=>by refine af (af (aB (a3 env U H s _ ub V R F q) (fun v s1 z=>?_) fun J J z=>(z:False).elim));obtain⟨x,H1,r1,R1,N1,i,rfl,i12,q1⟩:=z;obtain⟨t,rfl⟩:=r1;have F1:=F.pI N1;exact af (dh (af ((K.next (fun z=>z.elim) N1).add R1 i12 fun s2 R2 N2 K2=>az (k _ U H1 _ R2 ((N1.weak fun J z=>z.elim).trans (N2.weak fun J z=>.inr z)) (F1.next Qm N2) K2 q1))))
theorem KR(C:c.Ok A W E0)(ns:sj wK=true)(Cz:yY yo)(a2:qK c A W E0 Γ wK x2)(a1:yE c A W E0 Γ yo t2)(a3:qK c A W E0 Γ elt xe)(V:qG env Γ)(Qm:∀b,(b=env.locals\/∃x,env.cells.lookup x=some b)->¬b=D)(U6:¬W D):∀acc U H s Q (m:Sem PySem.Fin) RR EE,Rel c.w.params c.B H s.heap->pU W c.B H s.heap env Γ.pl U->CA c W H s D acc->GK c t2 x2 xe acc U H Q->
  (∀s' qp H' sD,Rel c.w.params c.B H' s'.heap->Nx (fun b=>W b\/b=D) H s H' s'->pU W c.B H' s'.heap env Γ.pl qp->CA c W H' s' D sD->Q sD qp H'->aE (aD c.prog c.w) A m RR EE s')->
  aE (aD c.prog c.w) A (do
    let x <-fE wK env
    iG wK.pos
    let x <-lU wK env x
    let _ <-runOwn (.compStart (.SetComp elt [⟨MP,Ox,[],0⟩,⟨yo,wK,[],0⟩] scope pos) 1 (<-lL [x] (kh x)) (.ref D) env) env
    m) RR EE s:=fun acc U H s Q m RR EE R F K q k=>by
 refine af (aB (a2 env U H s _ ub V R F q) (fun v s1 z=>?_) fun J J z=>(z:False).elim);obtain⟨x,H1,r1,R1,N1,q1⟩:=z;have K1:=K.next (fun z=>z.elim) N1;refine af (dh (af (cR (a:=v) (by induction wK using Expr.casesOn<;>first|rfl|exact b6 ns) ?_)));refine af (cC (aB (yF (W:=W) (E:=fun J J=>False) C.hh C.sm R1 r1 q1) (fun it s2 z=>?_) fun J J z=>z.elim));obtain⟨I,l,ok,At,rfl,IT,GD,fI,R2,N2,O2,GH,lz,q2⟩:=z;have Ql:∀b,(b=env.locals\/∃x,env.cells.lookup x=some b)->¬b=I:=fun b hb z=>by obtain⟨⟨o,e⟩,_⟩:=(F.pI N1).own b hb;rw[z,fI]at e;exact Z.nS e
 have Od:¬W I:=fun z=>Ql I ((F.pI N1).wx I z) rfl;have Je:I≠D:=fun z=>by obtain⟨O,ks,hk,⟨es,ep,e,_⟩,_⟩:=K1;rw[<-z,fI]at e;exact Z.nS e
 have loop:eB (aD c.prog c.w) A (.compLoop (.SetComp elt [⟨MP,Ox,[],0⟩,⟨yo,wK,[],0⟩] scope pos) 1 (.ref I) (.ref D) env) (fun r s'=>match r with| .ok f=>aE (aD c.prog c.w) A m RR EE s'| .error e=>kF (aD c.prog c.w) A env EE e s') s2:=by refine Dn (H0:=H1) (s0:=s2) C (IT yo) (f:=Oy c xe) (fun J J J J J z=>z) (Dp ..) a1 (Cz.1 _) V Ql Qm Je Od U6 (Oz C a3 V Qm) (fun s' qp H' sD R' N' F' K' q'=>?_) R2 ((F.pI N1).pI N2) (Nx.refl _ _ _) O2 (K1.next (fun z=>z.elim) N2) GD q2;refine k s' qp H' sD R' ((N1.weak fun J z=>z.elim).trans ?_) F' K' q';have Nn:=(N2.weak (Y:=uL W I D) fun J z=>z.elim).trans N';exact⟨fun b o g n e w=>Nn.keep b o g (fun z=>z.elim (fun z=>z.elim (fun z=>n (.inl z)) fun z=>by rw[z,fI]at e;exact Z.nS e) fun z=>n (.inr z)) e w,Nn.qb,Nn.gens,Nn.drawn,Nn.os⟩
 exact af (wpAny_runOwn (by rw[Around.mark_none];exact zr rfl rfl loop ((IT yo).self Cz.2 0 _ _ _ GD loop)))
end
end
section
variable[Inhabited Tg]
section
variable{c:Cfg}{A:aU}{W:Addr->Prop}{Ef:EF}
def GL(c:Cfg)(t1 t2:T)(x2 xe:X):V->List Int->Loc->MH->(List Int->Loc->MH->Prop)->Prop:=fun x acc r H K=>wA c.Θ c.call t1 x r H (fun r' H2=>GK c t2 x2 xe acc r' H2 K) ub
theorem OA(h:Q (.ref s.heap.objs.size) {s with heap:=s.heap.push (xX [] 0 [] (!tC w))}):aE (aD prog w) A (newSet (.type "set")) Q E s:=by refine af (af (eT (az ?_)));exact cN h
theorem Ii(t1 t2:T)(x2 xe:X):GL c t1 t2 x2 xe=GL c.tJ t1 t2 x2 xe:=by funext x acc r H K;simp only[GL,GK,Oy,Cfg.tJ,AY,vm,qj]
theorem Ij(C:c.Ok A W Ef)(ht:q9 Γ scope=true)(ns:sj iter=true)(Cz:yY tg)(W4:sj wK=true)(Su:yY yo)
  (a0:qK c A W Ef Γ iter xi)(a1:∀W',yE c.tJ A W' E0 (xy Γ scope.names) tg t)(a2:∀W',qK c.tJ A W' E0 (xy Γ scope.names) wK x2)(a2':∀W',yE c.tJ A W' E0 (xy Γ scope.names) yo t2)(a3:∀W',qK c.tJ A W' E0 (xy Γ scope.names) elt xe)
  {X:QE}(V:qG env Γ)(R:Rel c.w.params c.B H s.heap)(F:pU W c.B H s.heap env Γ.pl U)
  (q:wE c.Θ c.call xi U H (fun x H1=>qr H1 (fun l ok=>l.length<=pq/\Jd (GL c t t2 x2 xe) ok l [] (wb (u6 scope.names).length (sG Γ.pl 0 (u6 scope.names)) U) H1 Q) x) X)
  (fin:∀D L s1 H1 s' qp H' vs,Nx X0 H s H1 s1->pU W c.B H1 s1.heap env Γ.pl U->s1.heap.get? D=none->s1.heap.get? L=none->L≠D->Rel c.w.params c.B H' s'.heap->Nx (fun b=>b=D) H1 s1 H' s'->CA c W H' s' D vs->Off c W H' s' L->(∃m,s'.heap.Ns L m)->Q vs qp H'->mj (aD c.prog c.w) A (Ef H s X) use R2 (.ref D) L (.ok .next) s'):
  aE (aD c.prog c.w) A (comprehension (.SetComp elt [⟨tg,iter,[],0⟩,⟨yo,wK,[],0⟩] scope pos) scope env p (newSet (.type "set")) false (fE iter env) use) R2 (Ef H s X) s:=by
 have Oa:=ht;simp only[q9,aR,beq_iff_eq,bS]at Oa;obtain⟨⟨⟨u1,u2⟩,u3⟩,u4⟩:=Oa;obtain⟨zh,_,_⟩:=yG (cenv:={scope:=km scope env,locals:=s.heap.objs.size,globals:=env.globals,cells:=pW s.heap env scope.names,qual:=env.qual,func:=none,code:=env.code,frame:=env.frame,builtins:=env.builtins}) V R F ht rfl rfl rfl rfl rfl;have nd:=uK u2;refine jx (gs:=[⟨yo,wK,[],0⟩]) (g:=⟨tg,iter,[],0⟩) rfl (by intro z;induction iter using Expr.casesOn<;>first|rfl|exact b6 ns) (wt zh) u1 (fun x hx hl=>by obtain⟨n,k⟩:=x;subst hl;exact p7 nd hx) (rD (a0 env U H s _ X V R F q) fun v s1 x1 H1 r1 R1 N1 q1=>?_);refine aB (yF (W:=W) C.hh C.sm R1 r1 q1) (fun it s2 z=>?_) fun J J z=>z;obtain⟨I,l,ok,At,rfl,IT,GD,fI,Rb,Nb,Ob,GH,lz,q2⟩:=z;have F1:=F.pI N1;have F2:=F1.pI Nb;refine OA (ym ?_);dsimp only;generalize Sp:({s2 with heap:=s2.heap.push (xX [] 0 [] (!tC c.w))}:Shared)=s3;have h3:s3.heap=s2.heap.push (xX [] 0 [] (!tC c.w)):=by rw[<-Sp]
 have KD:s3.heap.objs.size=s2.heap.objs.size+1:=by rw[h3,b9]
 have EW:∀b o,s2.heap.get? b=some o->s3.heap.get? b=some o:=fun b o e=>h3▸(ay _ e);have Rc:Rel c.w.params c.B H1 s3.heap:=Rb.ext EW;have N3:Nx X0 H1 s2 H1 s3:=Sp▸(Nx.qR (t:=s2.toks) ((Rb.max X0).ext (h':=s2.heap.push _) (h3▸EW)) (pY.of fun b o J e=>ay _ e));have F3:=F2.pI N3;have gD:s3.heap.get? s2.heap.objs.size=some (xX [] 0 [] (!tC c.w)):=h3▸(aJ _ rfl);have OD:Off c W H1 s3 s2.heap.objs.size:=by obtain⟨a,b,d⟩:=sJ (h':=s3.heap) Rb EW (aF _);exact⟨a,d,b,_,gD,qq rfl ⋯ ⋯⟩
 generalize HZ:({scope:=km scope env,locals:=s3.heap.objs.size,globals:=env.globals,cells:=pW s3.heap env scope.names,qual:=env.qual,func:=none,code:=env.code,frame:=env.frame,builtins:=env.builtins}:Env)=cenv;have BJ:cenv.locals=s3.heap.objs.size:=by rw[<-HZ]
 have KG:cenv.cells=pW s3.heap env scope.names:=by rw[<-HZ]
 obtain⟨_,V4,F4⟩:=yG (cenv:=cenv) V Rc F3 ht (by rw[<-HZ]) BJ KG (by rw[<-HZ]) (by rw[<-HZ]);have EX:∀b o,s3.heap.get? b=some o->(qs s3.heap scope.names).get? b=some o:=uA;have R4:Rel c.w.params c.B H1 (qs s3.heap scope.names):=Rc.ext EX;have N4:Nx X0 H1 s3 H1 {s3 with heap:=qs s3.heap scope.names}:=Nx.qR (t:=s3.toks) ((Rc.max X0).ext EX) (pY.of fun b o J=>EX b o);have ge:∀b,uz s3.heap.objs.size scope.names (pW s3.heap env scope.names) b->s3.heap.objs.size<=b:=fun b hb=>by
  rcases hb with rfl|⟨x,hx,hl⟩
  ·exact aF _
  ·rcases tP zh hl with⟨_,z⟩|⟨z,_⟩
   ·exact cq z
   ·have h1:=p7 nd hx;rw[p7 nd z]at h1;exact nomatch h1
 have ltI:I<s2.heap.objs.size:=let ⟨o,e,_⟩:=IT tg|>.there _ _ GD;br e;have nI:¬uz s3.heap.objs.size scope.names (pW s3.heap env scope.names) I:=fun z=>absurd (ge _ z) (by rw[KD];exact mE.mpr (dU ltI));have nD:¬uz s3.heap.objs.size scope.names (pW s3.heap env scope.names) s2.heap.objs.size:=fun z=>absurd (ge _ z) (by rw[KD];exact kH _);have Oe:∀b,s2.heap.objs.size<=b->s1.heap.get? b=none:=fun b hb=>by
  cases e:s1.heap.get? b with
  |none=>rfl
  |some o=>exact absurd (br (GH _ _ e)) (b8.mpr hb)
 rw[Ii]at q2;have loop:eB (aD c.prog c.w) A (.compLoop (.SetComp elt [⟨tg,iter,[],0⟩,⟨yo,wK,[],0⟩] scope pos) 0 (.ref I) (.ref s2.heap.objs.size) cenv) (mj (aD c.prog c.w) A (Ef H s X) use R2 (.ref s2.heap.objs.size) s3.heap.objs.size) {s3 with heap:=qs s3.heap scope.names}:=by
  have Er:∀b,(b=cenv.locals\/∃x,cenv.cells.lookup x=some b)->uz s3.heap.objs.size scope.names (pW s3.heap env scope.names) b\/∃o,s1.heap.get? b=some o:=fun b hb=>by
   rcases hb with rfl|⟨x,hx⟩
   ·refine BJ.symm▸?_;exact .inl (.inl rfl)
   ·have hx:=KG▸hx;rcases tP zh hx with⟨z,_⟩|⟨z,w⟩
    ·exact .inl (.inr ⟨x,z,hx⟩)
    ·exact .inr (F1.own b (.inr ⟨x,w⟩)).1
  have Ql:∀b,(b=cenv.locals\/∃x,cenv.cells.lookup x=some b)->¬b=I:=fun b hb z=>by
   rcases Er b hb with w|⟨o,e⟩
   ·exact nI (z▸w)
   ·rw[z,fI]at e;exact nomatch e
  have Qm:∀b,(b=cenv.locals\/∃x,cenv.cells.lookup x=some b)->¬b=s2.heap.objs.size:=fun b hb z=>by
   rcases Er b hb with w|⟨o,e⟩
   ·exact nD (z▸w)
   ·rw[z,Oe _ (aF _)]at e;exact nomatch e
  refine Dn (c:=c.tJ) (W:=uz s3.heap.objs.size scope.names (pW s3.heap env scope.names)) (H0:=H1) (s0:=s1) (K:=Q) C.tJ (IT tg).tJ (f:=GK c.tJ t2 x2 xe) (fun J J J J J z=>z) (Dq ..) (a1 _) (Cz.1 _) V4 Ql Qm (cI ltI) nI nD (KR C.tJ W4 Su (a2 _) (a2' _) (a3 _) V4 Qm nD) ?_ R4 F4 ((((Nb.trans N3).trans N4).weak fun J z=>z.elim)) ?_ ?_ ?_ q2
  ·intro s' qp H' vs R' N' F' K' q';have Of:s3.heap.objs.size≠s2.heap.objs.size:=by rw[KD];exact fH _
   obtain⟨m,C8,_⟩:=F'.pl;have C8:=BJ▸C8;obtain⟨⟨o,eo⟩,p1,p2,p3⟩:=F'.own s3.heap.objs.size (.inl BJ.symm);refine fin _ _ s1 H1 s' qp H' vs N1 F1 (Oe _ (aF _)) (Oe _ (by rw[KD];exact bA _)) Of R' ⟨fun b o g n e w=>N'.keep b o g (fun z=>?_) e w,N'.qb,N'.gens,N'.drawn,N'.os⟩ (let ⟨o,ks,hk,e,nd',m'⟩:=K';⟨⟨o.rM,o.nB,o.ng,o.tp⟩,ks,hk,e,nd',m'⟩) ⟨p1,p3,p2,o,eo,fun t=>?_⟩ ⟨m,C8⟩ q'
   ·rcases z with(z|z)|z
    ·have:=ge _ z;rw[Oe b (by rw[KD]at this;exact cq this)]at e;exact nomatch e
    ·rw[z,fI]at e;exact nomatch e
    ·exact n z
   ·exact w7 C8 o eo t
  ·have:=(Ob.next (fun z=>z) N3).next (fun z=>z) N4;exact⟨this.rM,this.nB,this.ng,this.tp⟩
  ·have:=CA.next (X:=X0) (s:=s3) (s':={s3 with heap:=qs s3.heap scope.names}) (acc:=[]) ⟨OD,[],.e,⟨[],0,gD,.nil⟩,.nil,fun J=>Iff.rfl⟩ (fun z=>z) N4;obtain⟨o,ks,hk,e,nd',m'⟩:=this;exact⟨⟨o.rM,o.nB,o.ng,o.tp⟩,ks,hk,e,nd',m'⟩
  ·exact(IT tg).frame 0 s2.heap _ GD (fun o e=>EX _ _ (EW _ _ e)) (pY.of fun b o J e=>EX _ _ (EW _ _ e))
 have e1:s2.heap.objs.size=s2.heap.objs.size:=rfl;have atL:At 0 ({s3 with heap:=qs s3.heap scope.names}:Shared).heap:=(IT tg).frame 0 s2.heap _ GD (fun o e=>EX _ _ (EW _ _ e)) (pY.of fun b o J e=>EX _ _ (EW _ _ e));rw[<-HZ]at loop;subst Sp;exact zr rfl rfl loop ((IT tg).self Cz.2 0 _ _ _ atL loop)
end
end
section
variable[Inhabited Tg]
theorem AD.keys:∀{es:List (Int×ai)} {ks:List Int},AD es ks->es.map ar=ks/\∀e∈es,∃t,e.2=.int e.1 t
 |_,_,.nil=>⟨rfl,fun J h=>nomatch h⟩
 |_,_,.cons (t:=t) q=>⟨congrArg _ q.keys.1,fun e he=>by
  rcases aA.mp he with z|he
  ·subst z;exact⟨t,rfl⟩
  ·exact q.keys.2 e he⟩
theorem Ks.nodup(h:Ks ks):ks.Nodup:=by induction h using Ks.casesOn<;>decide
section
variable{prog:Program}{w:aP}{A:aU}{E:ai->Shared->Prop}{s:Shared}{B:Bs}{H:MH}{Q:V->MH->Prop}
theorem KS(hh:A.handled=none)(R:Rel w.params B H s.heap)(hk:Ks ks)(e:Oi s.heap a (!tC w) ks)(nd:acc.Nodup)(m:∀k,k∈acc↔k∈ks)(q:rj (.list ((qF acc).map .int)) H Q):aE (aD prog w) A (call (.builtin "sorted") [.ref a]) (p6 w.params B H s Q) E s:=by
 obtain⟨es,ep,ho,qe⟩:=e;have op:=xj (w:=w) (a:=a) (ep:=ep) (es:=es);have pa:((xY w a ep es).map ar).Perm acc:=(op.map _).trans (qe.keys.1▸(fP hk.nodup nd).mpr fun k=>(m k).symm);have le4:es.length<4096:=hk.small qe;have l64:acc.length<64:=by have:acc.length=ks.length:=((fP hk.nodup nd).mpr fun k=>(m k).symm).length_eq.symm;refine this▸?_;induction hk using Ks.casesOn<;>decide
 refine kdu_sorted (Ow (prog:=prog) hk qe) hh R.fr R.news ho (cQ▸(Z.lbl le4 rfl)) fun D h' tk vs F N lt hl hv=>?_;have Hx:=xE R F N (fun p hp=>.tail _ hp);obtain⟨nw,ng,_⟩:=N _ (.head _);have MQ:((xY w a ep es).map ar).length=es.length:=by rw[ah,op.length_eq]
 have ia:iA vs ((xY w a ep es).map ar):=GG (by rw[hl,MQ]) fun j v ej=>by obtain⟨x,e1,e2⟩:=hv j v ej;obtain⟨t,e3⟩:=qe.keys.2 x (op.mem_iff.mp (cv e1));exact⟨x.1,t,by rw[bO,e1];rfl,e2.trans e3⟩
 have Z3:h'.get? D=some (seqObj "list" vs.toArray 0):=nw;refine cW iO ⟨_,nw,rfl⟩ iD (mQ (n:=0) (vs:=vs) Z3 ia (hl▸MQ▸pa.length_eq▸l64) fun out C8 hI hp hP=>⟨.none,rfl,?_⟩) (iQ _);have hns:C8=qF acc:=lks_uniq (hp.trans (pa.trans (rt _).symm)) hP (vX _);repeat first|clear a|clear ks|clear hh|clear hk|clear e|clear nd|clear m|clear w|clear ep|clear es|clear prog|clear op|clear pa|clear le4|clear l64|clear MQ|clear ia|clear F|clear N|clear hl|clear hv|clear p|clear hp|clear j|clear v|clear ej|clear C8|clear hP|clear ho|clear qe|clear nw|clear x|clear e1|clear e2|clear e3
 subst hns;have kk:∀b o,b≠LL->s.heap.get? b=some o->(ib h' D vs out).get? b=some o:=fun b o g eo=>by
  have hb:b≠D:=fun z=>by have:=tU ng lt;have this:=z▸this;have this:=eo▸this;exact nomatch this
  exact(bH _ _ (Ne.symm hb)).trans (ay _ (ay _ ((bH _ _ (Ne.symm hb)).trans (Hx.1 b o g eo))))
 have kg':(ib h' D vs out).Ns LL B.mg:=by obtain⟨o,tK,Am,e0,rest⟩:=Hx.2;refine⟨o,tK,Am,?_,rest⟩;exact(bH _ _ ng).trans (ay _ (ay _ ((bH _ _ ng).trans e0)))
 have nD:∃n,(ib h' D vs out).get? D=some (listOf out n):=by exact⟨_,fW (ay _ (ay _ (fW Z3 fun J=> #[]))) fun J=>out⟩
 obtain⟨n,nD⟩:=nD;exact p6.Eu (o:=.list ((qF acc).map .int)) (t:=tk) R trivial (tU ng lt) kk kg' ⟨out.toList,n,nD,y9 hI⟩ q
end
end
section
variable[Inhabited Tg]
section
variable{c:Cfg}{A:aU}{W:Addr->Prop}{Ef:EF}
theorem OB(C:c.Ok A W Ef){Γ:Cx}{x:PySem.Str}{p pos ps:Pos}{tg iter yo wK elt:Expr}{scope:iH}{t t2:T}{xi x2 xe:X}(h:(qX x&&Γ.kinds.lookup x==some .globalImplicit)=true)(hg:c.gl x=some (.blt .sorted))(ht:q9 Γ scope=true)(ns:sj iter=true)(Cz:yY tg)(W4:sj wK=true)(Su:yY yo)
  (a0:qK c A W Ef Γ iter xi)(a1:∀W',yE c.tJ A W' E0 (xy Γ scope.names) tg t)(a2:∀W',qK c.tJ A W' E0 (xy Γ scope.names) wK x2)(a2':∀W',yE c.tJ A W' E0 (xy Γ scope.names) yo t2)(a3:∀W',qK c.tJ A W' E0 (xy Γ scope.names) elt xe):
  qK c A W Ef Γ (.Call (.Name x p) [.SetComp elt [⟨tg,iter,[],0⟩,⟨yo,wK,[],0⟩] scope ps] [] pos) (.sset (u6 scope.names).length (sG Γ.pl 0 (u6 scope.names)) t xi t2 x2 xe):=fun env U H s Q X V R F q=>by rw[aR,beq_iff_eq]at h;dsimp only[Gj]at q;refine fG (du V.kind (by unfold Env.kindOf;refine V.names▸?_;exact h.2) (u5 (C.blt x .sorted hg) V R ?_) (s9 h.1));refine lY rfl (show∀h,c.K.In h->∃k,(k=lE\/k=j9\/k=jc)/\Looks (aD c.prog c.w) h (nZ (ED .sorted)) k from tV (Dd .sorted)) (kC ?_);show aE _ _ (spliced ((false,fE (.SetComp elt [⟨tg,iter,[],0⟩,⟨yo,wK,[],0⟩] scope ps) env)::jr pos [])) _ _ _;refine spliced_cons ?_;refine Ij (use:=none) C ht ns Cz W4 Su a0 a1 a2 a2' a3 V R F (Q:=fun acc J H2=>acc.length<64/\rj (.list ((qF acc).map .int)) H2 Q) q fun D L s1 H1 s' qp H' vs N1 F1 fD fL Of R' N' K' OL hL q'=>?_;obtain⟨m,hL⟩:=hL;refine⟨m,hL,fun h' sb=>?_⟩;have tQ:=OL.step (tk:=s'.toks) R' (fun b o hb e=>(sb.2 b hb).trans e);obtain⟨OD,ks,hk,e,nd,hm⟩:=K'.next (fun z=>Of z.symm) tQ.2.1;have N3:Nx X0 H1 s1 H' {s' with heap:=h'}:=⟨fun b o g nb e w=>let z:=N'.keep b o g (fun z=>by rw[z,fD]at e;exact Z.nS e) e w;tQ.2.1.keep b o g (fun z=>by rw[z,fL]at e;exact Z.nS e) z.1 z.2,N'.qb.trans tQ.2.1.qb,tQ.2.1.gens.trans N'.gens,tQ.2.1.drawn.trans N'.drawn,tQ.2.1.os.trans N'.os⟩;refine spliced_nil ⟨tQ.1.MO C.kb,?_⟩;exact aB (KS C.hh tQ.1 hk e nd hm q'.2) (fun J J z=>z.after (N1.trans N3)) fun J J z=>z
end
end
section
noncomputable section
set_option genInjectivity false
set_option genSizeOf false
section
variable[Inhabited Tg]
noncomputable def ue{α β:Type}(d:β)(o:Option α)(f:∀a,o=some a->β):β:=cO (motive:=fun o=>(∀a,o=some a->β)->β) o (fun J=>d) (fun a f=>f a rfl) f
noncomputable def yp{β:Type}(d:β)(b:Bool)(f:b=true->β):β:=aX (motive:=fun b=>(b=true->β)->β) b (fun J=>d) (fun f=>f rfl) f
noncomputable def KU{β:Type}(d:β)(b:Bool)(f:b=false->β):β:=aX (motive:=fun b=>(b=false->β)->β) b (fun f=>f rfl) (fun J=>d) f
noncomputable def Sv{α:Type}{P:List α->Type}(d:∀l,P l)(f:∀a,P [a])(l:List α):P l:=aH l (d []) fun a r=>aH (motive:=fun r=>P (a::r)) r (f a) fun b r=>d (a::b::r)
noncomputable def ls2{α:Type}{P:List α->Type}(d:∀l,P l)(f:∀a b,P [a,b])(l:List α):P l:=aH l (d []) fun a r=>Sv (P:=fun r=>P (a::r)) (fun r=>d (a::r)) (f a) r
noncomputable def MR{P:Expr->Type}(d:∀e,P e)(n:∀x p,P (.Name x p))(a:∀o x p,P (.Attribute o x p))(s:∀o i p,P (.Subscript o i p))(t:∀es k p,P (.Tuple es k p))(e:Expr):P e:=by
 induction e using Expr.casesOn with
 |Name x p=>exact n x p
 |Attribute o x p=>exact a o x p
 |Subscript o i p=>exact s o i p
 |Tuple es k p=>exact t es k p
 |_=>exact d _
noncomputable def Qn{P:Expr->Type}(d:∀e,P e)(c:∀f es ks p,P (.Call f es ks p))(u:∀o a p,P (.UnaryOp o a p))(k:∀c k p,P (.Constant c k p))(l:∀e gs s p,P (.ListComp e gs s p))(m:∀e gs s p,P (.SetComp e gs s p))(s:∀a b c p,P (.Slice a b c p))(e:Expr):P e:=by
 induction e using Expr.casesOn with
 |Call f es ks p=>exact c f es ks p
 |UnaryOp o a p=>exact u o a p
 |Constant x y p=>exact k x y p
 |ListComp e gs sc p=>exact l e gs sc p
 |SetComp e gs sc p=>exact m e gs sc p
 |Slice a b c p=>exact s a b c p
 |_=>exact d _
theorem u9(h:(a&&b)=true):a=true/\b=true:=(aR a b).mp h
structure Ck(gl:PySem.Str->Option Gl) where
 c:Cfg
 A:aU
 W:Addr->Prop
 Ef:EF
 g:c.gl=gl
 C:c.Ok A W Ef
variable{gl:PySem.Str->Option Gl}
def Ck.tJ(k:Ck gl)(W':Addr->Prop):Ck gl:=⟨k.c.tJ,k.A,W',E0,k.g,k.C.tJ⟩
theorem Ck.gg(k:Ck gl)(h:gl x=o):k.c.gl x=o:=(congrFun k.g x).trans h
def EP(k:Ck gl)(Γ:Cx)(e:Expr)(x:X):Prop:=qK k.c k.A k.W k.Ef Γ e x
def TP(k:Ck gl)(Γ:Cx)(e:Expr)(x:X):Prop:=yV k.c k.A k.W k.Ef Γ e x
def AP(k:Ck gl)(Γ:Cx)(e:Expr)(t:T):Prop:=yE k.c k.A k.W k.Ef Γ e t
def SP(k:Ck gl)(Γ:Cx)(st:Stmt)(x:S):Prop:=BD k.c k.A k.W k.Ef Γ st x
def BP(k:Ck gl)(Γ:Cx)(st:List Stmt)(x:Ss):Prop:=Av k.c k.A k.W k.Ef Γ st x
def CEP(gl:PySem.Str->Option Gl)(Γ:Cx)(e:Expr)(x:X):Prop:=∀k:Ck gl,EP k Γ e x/\TP k Γ e x
def CE(gl:PySem.Str->Option Gl)(Γ:Cx)(e:Expr):Type:=Subtype (CEP gl Γ e)
def CTP(gl:PySem.Str->Option Gl)(Γ:Cx)(e:Expr)(o:Option T):Prop:=∀t,o=some t->∀k:Ck gl,AP k Γ e t
def CT(gl:PySem.Str->Option Gl)(Γ:Cx)(e:Expr):Type:=Subtype (CTP gl Γ e)
def CSP(gl:PySem.Str->Option Gl)(Γ:Cx)(st:Stmt)(x:S):Prop:=∀k:Ck gl,SP k Γ st x
def CS(gl:PySem.Str->Option Gl)(Γ:Cx)(st:Stmt):Type:=Subtype (CSP gl Γ st)
def CBP(gl:PySem.Str->Option Gl)(Γ:Cx)(st:List Stmt)(x:Ss):Prop:=∀k:Ck gl,BP k Γ st x
def CB(gl:PySem.Str->Option Gl)(Γ:Cx)(st:List Stmt):Type:=Subtype (CBP gl Γ st)
variable{Γ:Cx}{e:Expr}{st:Stmt}
theorem noE:EP k Γ e .bad:=fun env U H s Q X V R F q=>(q:False).elim
theorem noT:TP k Γ e .bad:=fun env U H s Q X V R F q=>(q:False).elim
noncomputable def pZ:CE gl Γ e:=bu .bad fun k=>⟨noE,noT⟩
noncomputable def EY:CT gl Γ e:=bu none fun t h=>nomatch h
noncomputable def qu:CS gl Γ st:=bu .bad fun k env U H s K X V O R F q=>(q:False).elim
noncomputable def Jf(x:X)(h:∀k:Ck gl,EP k Γ e x)(hx:∀Θ call U H Q (X:QE),¬wT Θ call x U H Q X):CE gl Γ e:=bu x fun k=>⟨h k,fun env U H s Q X V R F q=>(hx _ _ _ _ _ _ q).elim⟩
noncomputable def AG(x:X)(h:∀k:Ck gl,EP k Γ e x)(he:∀env whole,isTrue e env whole=(do let v <-whole;iG e.pos;lL [v] (truthy v)))
  (hx:∀Θ call U H Q (X:QE),wT Θ call x U H Q X->wE Θ call x U H (fun v H=>rI (qm fun t=>Q t H) v) X):CE gl Γ e:=bu x fun k=>⟨h k,fun env U H s Q X V R F q=>by
 refine isTrue_plain (rD (h k env U H s _ X V R F (hx _ _ _ _ _ _ q)) fun v s1 y H1 r1 R1 N1 q1=>?_) (he env _)
 exact aB (BC R1 r1 q1) (fun J J z=>z.after N1) fun J J z=>z⟩
def sT(x:CE gl Γ e)(k:Ck gl):EP k Γ e x.1:=(x.2 k).1
def GN(x:CE gl Γ e)(k:Ck gl):TP k Γ e x.1:=(x.2 k).2
noncomputable def Z4(t:T)(h:∀k:Ck gl,AP k Γ e t):CT gl Γ e:=bu (some t) fun t' h' k=>au h'▸h k
def OC(f:∀e,CE gl Γ e)(es:List Expr):Xs:=xK (es.map fun e=>(f e).1)
theorem xZ(k:Ck gl)(f:∀e,CE gl Γ e)(es:List Expr):es.all noStar=true->yW k.c k.A k.W k.Ef Γ es (OC f es):=by
 induction es with
 |nil=>exact fun J=>J6
 |cons e r ih=>exact fun h=>GA k.C (u9 h).1 ((sT (f e) k)) (ih (u9 h).2)
theorem OE(h:(qX x&&Γ.kinds.lookup x==some .globalImplicit)=true)(b:yU c x (.type n)):qK c A W Ef Γ (.Name x pos) (.c (.typ n)):=fun env U H s Q X V R F q=>
 du V.kind ((congrArg _ V.names).trans (gq (u9 h).2)) (u5 b V R (p6.here R (Si.mpr rfl) q)) (s9 (u9 h).1)
def ag3(c:Const)(u:Nat)(p:Pos):CE gl Γ (.Constant c u p):=by
 induction c using kT with
 |none=>exact AG (.c .none) (fun k env U H s Q X V R F q=>wpAny_Constant_none (p6.here R (tM.mpr rfl) q)) (fun J J=>rfl) fun J J J J J J q=>q
 |bool b=>exact AG (.c (.bool b)) (fun k env U H s Q X V R F q=>wpAny_Constant_bool (p6.here R (yC.mpr rfl) q)) (fun J J=>rfl) fun J J J J J J q=>q
 |int b=>exact AG (.c (.int b)) (fun k env U H s Q X V R F q=>iU (p6.tok R (pO.mpr ⟨_,rfl⟩) q)) (fun J J=>rfl) fun J J J J J J q=>q
 |str b=>exact AG (.c (.str b)) (fun k env U H s Q X V R F q=>wpAny_Constant_str (p6.tok R (se.mpr ⟨_,rfl⟩) q)) (fun J J=>rfl) fun J J J J J J q=>q
 |_=>exact pZ
noncomputable def tyB(b:Bi):Option (Subtype fun n=>ED b=.type n):=by
 induction b using Bi.casesOn with
 |yi=>exact some ⟨"int",rfl⟩
 |list=>exact some ⟨"list",rfl⟩
 |tuple=>exact some ⟨"tuple",rfl⟩
 |dict=>exact some ⟨"dict",rfl⟩
 |bytes=>exact some ⟨"bytes",rfl⟩
 |range=>exact some ⟨"range",rfl⟩
 |_=>exact none
def tyE(x:PySem.Str)(p:Pos)(n:String)(h:(qX x&&Γ.kinds.lookup x==some .globalImplicit)=true)(b:∀k:Ck gl,yU k.c x (.type n)):CE gl Γ (.Name x p):=AG (.c (.typ n)) (fun k=>OE h (b k)) (fun J J=>rfl) fun J J J J J J q=>q
def GO{β:Type}(d:β)(Γ:Cx)(x:PySem.Str)(f:(qX x&&Γ.kinds.lookup x==some .globalImplicit)=true->∀g,gl x=some g->β):β:=yp d (qX x&&Γ.kinds.lookup x==some .globalImplicit) fun h=>ue d (gl x) (f h)
def W5(x:PySem.Str)(p:Pos):CE gl Γ (.Name x p):=ue (GO pZ Γ x fun h g=>by
  induction g using Gl.casesOn with
  |val v=>exact fun hg=>AG (.c v) (fun k=>HJ k.C h (k.gg hg)) (fun J J=>rfl) fun J J J J J J q=>q
  |ty n=>exact fun hg=>tyE x p n h fun k=>k.C.ty _ _ (k.gg hg)
  |blt b=>exact fun hg=>ue pZ (tyB b) fun n J=>tyE x p n.1 h fun k=>n.2▸k.C.blt _ _ (k.gg hg)
  |_=>exact fun J=>pZ) (place Γ.pl x) fun i hi=>AG (.v i) (fun k=>EG hi) (fun J J=>rfl) fun J J J J J J q=>q
section
variable(f:∀e,CE gl Γ e)
def cUn(o:UnaryOp)(a:Expr)(p:Pos):CE gl Γ (.UnaryOp o a p):=by
 induction o using UnaryOp.casesOn with
 |USub=>exact Jf (.neg (f a).1) (fun k=>J1 ((sT (f a) k))) fun J J J J J J q=>q
 |Not=>exact bu (.no (f a).1) fun k=>⟨ND ((sT (f a) k)),Wh ((GN (f a) k))⟩
 |_=>exact pZ
def cBool(o:BoolOp)(p:Pos)(es:List Expr):CE gl Γ (.BoolOp o es p):=by
 induction es using aH with
 |nil=>exact pZ
 |cons a r=>induction o using BoolOp.casesOn with
  |And=>induction r using aH with
   |nil=>exact bu (f a).1 fun k=>⟨fun env U H s Q X V R F q=>BoolOp_one ((sT (f a) k) env U H s Q X V R F q),RJ ((GN (f a) k))⟩
   |cons b r=>exact bu (.band (f a).1 (f (.BoolOp .And (b::r) p)).1) fun k=>⟨J2 k.C ((sT (f _) k)) ((sT (f _) k)),Wi k.C ((GN (f _) k)) ((GN (f _) k))⟩
  |Or=>induction r using aH with
   |nil=>exact bu (f a).1 fun k=>⟨fun env U H s Q X V R F q=>BoolOp_one ((sT (f a) k) env U H s Q X V R F q),Wj ((GN (f a) k))⟩
   |cons b r=>exact bu (.bor (f a).1 (f (.BoolOp .Or (b::r) p)).1) fun k=>⟨NF k.C ((sT (f _) k)) ((sT (f _) k)),af3 k.C ((GN (f _) k)) ((GN (f _) k))⟩
def ag4(l:Expr)(p:Pos)(os:List nO)(rs:List Expr):CE gl Γ (.Compare l os rs p):=by
 induction os using aH with
 |nil=>exact pZ
 |cons o os=>induction rs using aH with
  |nil=>exact pZ
  |cons r rs=>
   exact ue pZ (NC o) fun b hb=>by
    induction os using aH with
    |nil=>induction rs using aH with
     |nil=>exact KU pZ (kP o r) fun m=>bu (.cmp b (f l).1 (f r).1) fun k=>⟨J4 k.C hb m ((sT (f _) k)) ((sT (f _) k)),Wl k.C hb m ((sT (f _) k)) ((sT (f _) k))⟩
     |cons=>exact pZ
    |cons o' os=>exact Sv (P:=fun os=>CE gl Γ (.Compare l (o::os) (r::rs) p)) (fun J=>pZ) (fun o'=>Sv (P:=fun rs=>CE gl Γ (.Compare l [o,o'] (r::rs) p)) (fun J=>pZ) (fun r'=>ue pZ (NC o') fun b' GP=>KU pZ (nj [o,o'] [r,r']) fun m=>bu (.uc b b' (f l).1 (f r).1 (f r').1) fun k=>⟨RL k.C hb GP m ((sT (f _) k)) ((sT (f _) k)) ((sT (f _) k)),RK k.C hb GP m ((sT (f _) k)) ((sT (f _) k)) ((sT (f _) k))⟩) rs) (o'::os)
def W6(gl:PySem.Str->Option Gl)(Γ:Cx)(o:Option Expr):Type:=Subtype fun x=>∀k:Ck gl,BK k.c k.A k.W k.Ef Γ o x
noncomputable def GQ(o:Option Expr):W6 gl Γ o:=by
 induction o using cO with
 |none=>exact bu (.c .none) fun k=>.inl ⟨rfl,rfl⟩
 |some e=>exact bu (f e).1 fun k=>.inr ⟨e,rfl,(sT (f e) k)⟩
def ag5(o:Expr)(q p:Pos)(e:Expr):CE gl Γ (.Subscript o (.Slice none none (some e) q) p):=
 Qn (P:=fun e=>CE gl Γ (.Subscript o (.Slice none none (some e) q) p)) (fun J=>pZ) (fun J J J J=>pZ) (fun op a p2=>by
  induction op using UnaryOp.casesOn with
  |USub=>
   exact Qn (P:=fun a=>CE gl Γ (.Subscript o (.Slice none none (some (.UnaryOp .USub a p2)) q) p)) (fun J=>pZ) (fun J J J J=>pZ) (fun J J J=>pZ) (fun c u p1=>by
    induction c using kT with
    |int i=>exact yp pZ (i==1) fun h=>Jf (.rev (f o).1) (fun k=>(gq h).symm▸KI ((sT (f o) k))) fun J J J J J J q=>q
    |_=>exact pZ) (fun J J J J=>pZ) (fun J J J J=>pZ) (fun J J J J=>pZ) a
  |_=>exact pZ) (fun J J J=>pZ) (fun J J J J=>pZ) (fun J J J J=>pZ) (fun J J J J=>pZ) e
def ag6(o:Expr)(p:Pos)(i:Expr):CE gl Γ (.Subscript o i p):=
 Qn (P:=fun i=>CE gl Γ (.Subscript o i p)) (fun J=>pZ) (fun J J J J=>pZ) (fun J J J=>pZ) (fun J J J=>pZ) (fun J J J J=>pZ) (fun J J J J=>pZ) (fun lo hi st q=>by
  induction st using cO with
  |none=>exact Jf (.Al (f o).1 (GQ f lo).1 (GQ f hi).1) (fun k=>KH k.C ((sT (f o) k)) ((GQ f lo).2 k) ((GQ f hi).2 k)) fun J J J J J J q=>q
  |some e=>induction lo using cO with
   |none=>induction hi using cO with
    |none=>exact ag5 f o q p e
    |some=>exact pZ
   |some=>exact pZ) i
theorem Sw(k:Ck gl)(hk:keysOf keys=some ks)(h:(keys.length==es.length&&decide (keys.length<=15))=true):EP k Γ (.Dict keys es p) (.uH ks (OC f es)):=by
 induction keys using aH with
 |nil=>induction es using aH with
  |nil=>exact au hk▸Ib
  |cons=>nomatch (gq (u9 h).1)
 |cons c r=>exact KL k.C hk (gq (u9 h).1) (fun z=>nomatch z) (of_decide_eq_true (u9 h).2) fun e=>(sT (f e) k)
def Sx(x:PySem.Str)(q p:Pos)(es:List Expr)(h:(qX x&&Γ.kinds.lookup x==some .globalImplicit)=true)(ns:es.all noStar=true)(g:Gl):gl x=some g->CE gl Γ (.Call (.Name x q) es [] p):=by
 induction g using Gl.casesOn with
 |fn g=>exact fun hg=>AG (.call g (OC f es)) (fun k=>HL k.C h (k.gg hg) ns (xZ k f es ns)) (fun J J=>rfl) fun J J J J J J q=>q
 |blt g=>exact fun hg=>AG (.blt g (OC f es)) (fun k=>Ku k.C h (k.gg hg) ns (xZ k f es ns)) (fun J J=>rfl) fun J J J J J J q=>q
 |cls g=>exact fun hg=>Jf (.new g (OC f es)) (fun k=>Kv k.C h (k.gg hg) ns (xZ k f es ns)) fun J J J J J J q=>q
 |_=>exact fun J=>pZ
def W7(f:Expr)(es:List Expr)(ks:List Keyword):Bool:=MR (P:=fun J=>Bool) (fun J=>false) (fun J J=>es.isEmpty&&ks.isEmpty) (fun J J J=>false) (fun J J J=>false) (fun J J J=>false) f
def isCall(e:Expr):Bool:=Qn (P:=fun J=>Bool) (fun J=>false) (fun f es ks J=>W7 f es ks) (fun J J J=>false) (fun J J J=>false) (fun J J J J=>false) (fun J J J J=>false) (fun J J J J=>false) e
theorem rJ(h:isCall o=false):i7 o x env (fE o env)=fE o env:=by
 induction o using Expr.casesOn with
 |Call f es ks p=>
  induction f using Expr.casesOn with
  |Name i q=>
   induction es using aH with
   |nil=>
    induction ks using aH with
    |nil=>exact Z.tF h
    |cons _ _=>rfl
   |cons _ _=>rfl
  |_=>rfl
 |_=>rfl
def zt(es:List Expr)(p:Pos)(g:Expr):CE gl Γ (.Call g es [] p):=yp pZ (es.all noStar) fun ns=>
 MR (P:=fun g=>CE gl Γ (.Call g es [] p)) (fun J=>pZ) (fun x q=>GO pZ Γ x fun h g hg=>Sx f x q p es h ns g hg)
  (fun o x ap=>yp pZ (decide (es.length<30)) fun h1=>yp pZ (ap.endLine==p.line) fun h2=>KU pZ (isCall o) fun h3=>ue pZ (uY x) fun a ha=>
   AG (.pD (f o).1 a (OC f es)) (fun k=>HV k.C ha (fun env=>rJ h3) h2 (of_decide_eq_true h1) ns ((sT (f o) k)) (xZ k f es ns)) (fun J J=>rfl) fun J J J J J J q=>q)
  (fun J J J=>pZ) (fun J J J=>pZ) g
def W8(o:Expr)(x:PySem.Str)(p:Pos):CE gl Γ (.Attribute o x p):=ue pZ (uY x) fun a ha=>KU pZ (isCall o) fun h=>Jf (.attr (f o).1 a) (fun k=>HK k.C ha (fun env=>rJ h) ((sT (f o) k))) fun J J J J J J q=>q
end
section
variable(f:∀Γ e,CE gl Γ e)
def KV{β:Type}(d:β)(Γ:Cx)(x:PySem.Str)(K:∀i y,place Γ.pl x=some i->Γ.pl[i]? =some (y,true)->β):β:=ue d (place Γ.pl x) fun i hi=>ue d Γ.pl[i]? fun z hz=>by
 induction z using Prod.casesOn with
 |mk y b=>induction b using aX with
  |false=>exact d
  |true=>exact K i y hi hz
def cTn{β:Type}(d:β)(Γ:Cx)(e:Expr):(∀t,(∀{c A W Ef},yE c A W Ef Γ e t)->yY e->β)->β:=
 MR (P:=fun e=>(∀t,(∀{c A W Ef},yE c A W Ef Γ e t)->yY e->β)->β) (fun J J=>d) (fun x p K=>KV d Γ x fun i y hi hy=>K (.v i) (Ka hi hy) ⟨fun J J=>rfl,rfl⟩) (fun J J J J=>d) (fun J J J J=>d) (fun J J J J=>d) e
noncomputable def ag7{β:Type}(d:β)(Γ:Cx)(ifs:List Expr):(∀g,(∀k:Ck gl,u7 k.c k.A k.W k.Ef Γ ifs g)->β)->β:=
 aH (motive:=fun ifs=>(∀g,(∀k:Ck gl,u7 k.c k.A k.W k.Ef Γ ifs g)->β)->β) ifs (fun K=>K (.c (.bool true)) fun k=>.inl ⟨rfl,rfl⟩) fun e r=>
  aH (motive:=fun r=>(∀g,(∀k:Ck gl,u7 k.c k.A k.W k.Ef Γ (e::r) g)->β)->β) r (fun K=>K (f Γ e).1 fun k=>.inr ⟨e,rfl,(GN (f Γ e) k)⟩) fun J J J=>d
structure W9(gl:PySem.Str->Option Gl)(Γ:Cx)(scope:iH)(tg iter:Expr)(ifs:List Expr)(t:T)(g:X):Prop where
 a:q9 Γ scope=true
 b:sj iter=true
 t:∀{c A W Ef},yE c A W Ef (xy Γ scope.names) tg t
 o:yY tg
 i:∀k:Ck gl,u7 k.c k.A k.W k.Ef (xy Γ scope.names) ifs g
def Qo{β:List eF->Type}(d:∀l,β l)(Γ:Cx)(scope:iH)(K:∀tg iter ifs t g,W9 gl Γ scope tg iter ifs t g->β [⟨tg,iter,ifs,0⟩])(gs:List eF):β gs:=
 Sv (α:=eF) (P:=β) d (fun c=>by
  obtain⟨tg,iter,ifs,a⟩:=c
  induction a using fg with
  |negSucc=>exact d _
  |ofNat a=>induction a using bz with
   |zero=>exact yp (d _) (q9 Γ scope) fun h1=>yp (d _) (sj iter) fun h2=>cTn (d _) (xy Γ scope.names) tg fun t ht ho=>ag7 f (d _) (xy Γ scope.names) ifs fun g hg=>K tg iter ifs t g ⟨h1,h2,ht,ho,hg⟩
   |succ=>exact d _) gs
def cLc(elt:Expr)(scope:iH)(p:Pos)(gs:List eF):CE gl Γ (.ListComp elt gs scope p):=
 Qo (β:=fun gs=>CE gl Γ (.ListComp elt gs scope p)) f (fun J=>pZ) Γ scope (fun tg iter ifs t g h=>Jf (.comp (u6 scope.names).length (sG Γ.pl 0 (u6 scope.names)) t (f Γ iter).1 g (f (xy Γ scope.names) elt).1) (fun k=>Ia k.C h.a h.b h.o ((sT (f Γ iter) k)) (fun W'=>h.t) (fun W'=>h.i (k.tJ W')) fun W'=>(sT (f _ _) (k.tJ W'))) fun J J J J J J q=>q) gs
def ag8(b:Bi):Option (PLift (b=.sorted)):=by
 induction b using Bi.casesOn with
 |sorted=>exact some ⟨rfl⟩
 |_=>exact none
noncomputable def Xa(x:PySem.Str)(g:Gl):gl x=some g->Option (PLift (gl x=some (.blt .sorted))):=by
 induction g using Gl.casesOn with
 |blt b=>exact fun h=>oR (fun z:PLift (b=.sorted)=>(PLift.up (z.down▸h):PLift (gl x=some (.blt .sorted)))) (ag8 b)
 |_=>exact fun J=>none
def cSg(x:PySem.Str)(q p ps:Pos)(elt:Expr)(scope:iH)(h:(qX x&&Γ.kinds.lookup x==some .globalImplicit)=true)(hx:gl x=some (.blt .sorted))(gs:List eF):CE gl Γ (.Call (.Name x q) [.SetComp elt gs scope ps] [] p):=
 ls2 (α:=eF) (P:=fun gs=>CE gl Γ (.Call (.Name x q) [.SetComp elt gs scope ps] [] p)) (fun J=>pZ) (fun a b=>by
  obtain⟨tg,iter,ifs,n⟩:=a
  obtain⟨yo,wK,ag9,n2⟩:=b
  induction ifs using aH with
  |cons=>exact pZ
  |nil=>induction ag9 using aH with
   |cons=>exact pZ
   |nil=>induction n using fg with
    |negSucc=>exact pZ
    |ofNat n=>induction n2 using fg with
     |negSucc=>exact pZ
     |ofNat n2=>induction n using bz with
      |succ=>exact pZ
      |zero=>induction n2 using bz with
       |succ=>exact pZ
       |zero=>
        exact yp pZ (q9 Γ scope) fun h1=>yp pZ (sj iter) fun h2=>yp pZ (sj wK) fun h3=>cTn pZ (xy Γ scope.names) tg fun t ht ho=>cTn pZ (xy Γ scope.names) yo fun t2 ht2 ho2=>Jf (.sset (u6 scope.names).length (sG Γ.pl 0 (u6 scope.names)) t (f Γ iter).1 t2 (f (xy Γ scope.names) wK).1 (f (xy Γ scope.names) elt).1) (fun k=>OB k.C h (k.gg hx) h1 h2 ho h3 ho2 ((sT (f Γ iter) k)) (fun W'=>ht) (fun W'=>(sT (f _ _) (k.tJ W'))) (fun W'=>ht2) fun W'=>(sT (f _ _) (k.tJ W'))) fun J J J J J J q=>q) gs
def OF(g:Expr)(p ps:Pos)(elt:Expr)(gs:List eF)(scope:iH):CE gl Γ (.Call g [.SetComp elt gs scope ps] [] p):=
 MR (P:=fun g=>CE gl Γ (.Call g [.SetComp elt gs scope ps] [] p)) (fun J=>pZ) (fun x q=>GO pZ Γ x fun h g hg=>ue pZ (Xa x g hg) fun z J=>cSg f x q p ps elt scope h z.down gs) (fun J J J=>pZ) (fun J J J=>pZ) (fun J J J=>pZ) g
def ah0(g:Expr)(p:Pos)(es:List Expr):CE gl Γ (.Call g es [] p):=
 Sv (P:=fun es=>CE gl Γ (.Call g es [] p)) (fun es=>zt (f Γ) es p g) (fun e=>Qn (P:=fun e=>CE gl Γ (.Call g [e] [] p)) (fun e=>zt (f Γ) [e] p g) (fun J J J J=>zt (f Γ) _ p g) (fun J J J=>zt (f Γ) _ p g) (fun J J J=>zt (f Γ) _ p g) (fun J J J J=>zt (f Γ) _ p g)
  (fun elt gs scope ps=>OF f g p ps elt gs scope) (fun J J J J=>zt (f Γ) _ p g) e) es
def cE1(e:Expr):CE gl Γ e:=by
 induction e using Expr.casesOn with
 |Constant c u p=>exact ag3 c u p
 |Name x p=>exact W5 x p
 |BinOp l o r p=>exact ue pZ (RG o) fun b hb=>Jf (.bin b (f Γ l).1 (f Γ r).1) (fun k=>J0 k.C hb ((sT (f Γ l) k)) ((sT (f Γ r) k))) fun J J J J J J q=>q
 |UnaryOp o a p=>exact cUn (f Γ) o a p
 |BoolOp o es p=>exact cBool (f Γ) o p es
 |IfExp t a b p=>exact bu (.ite (f Γ t).1 (f Γ a).1 (f Γ b).1) fun k=>⟨J3 k.C ((GN (f Γ t) k)) ((sT (f Γ a) k)) ((sT (f Γ b) k)),Wk k.C ((GN (f Γ t) k)) ((GN (f Γ a) k)) ((GN (f Γ b) k))⟩
 |Compare l os rs p=>exact ag4 (f Γ) l p os rs
 |Attribute o x p=>exact W8 (f Γ) o x p
 |Subscript o i p=>exact yp (ag6 (f Γ) o p i) (sZ i) fun h=>Jf (.sub (f Γ o).1 (f Γ i).1) (fun k=>J5 k.C h ((sT (f Γ o) k)) ((sT (f Γ i) k))) fun J J J J J J q=>q
 |Tuple es n p=>exact yp pZ (decide (es.length<=1000)) fun h=>yp pZ (es.all noStar) fun ns=>Jf (.tup (OC (f Γ) es)) (fun k=>J7 (of_decide_eq_true h) (xZ k (f Γ) es ns)) fun J J J J J J q=>q
 |List es p=>exact yp pZ (decide (es.length<=1000)) fun h=>yp pZ (es.all noStar) fun ns=>Jf (.lst (OC (f Γ) es)) (fun k=>J8 (of_decide_eq_true h) (xZ k (f Γ) es ns)) fun J J J J J J q=>q
 |Dict keys es p=>exact ue pZ (keysOf keys) fun ks hk=>yp pZ (keys.length==es.length&&decide (keys.length<=15)) fun h=>Jf (.uH ks (OC (f Γ) es)) (fun k=>Sw (f Γ) k hk h) fun J J J J J J q=>q
 |Call g es ks p=>induction ks using aH with
  |nil=>exact ah0 f g p es
  |cons=>exact pZ
 |ListComp elt gs scope p=>exact cLc f elt scope p gs
 |_=>exact pZ
end
def cE(n:Nat):∀Γ e,CE gl Γ e:=cX (motive:=fun J=>∀Γ e,CE gl Γ e) (fun J J=>pZ) (fun J f Γ e=>cE1 f e) n
section
variable(f:∀e,CE gl Γ e)(r:∀e,CT gl Γ e)(g:∀st,CS gl Γ st)
def cT1(e:Expr):CT gl Γ e:=MR (P:=fun e=>CT gl Γ e) (fun J=>EY) (fun x p=>KV EY Γ x fun i y hi hy=>Z4 (.v i) fun k=>Ka hi hy)
  (fun o x p=>ue EY (uY x) fun a ha=>Z4 (.attr (f o).1 a) fun k=>RM k.C ha (sT (f o) k))
  (fun o i p=>yp EY (sZ i) fun h=>Z4 (.sub (f o).1 (f i).1) fun k=>Wn k.C h (sT (f o) k) (sT (f i) k))
  (fun es n p=>yp EY (es.all noStar) fun hs=>ue EY (C0 (es.map fun e=>(r e).1)) fun ts ht=>Z4 (.tup (EH ts)) fun k=>
   have h:=RN k.C (fun e t h=>(r e).2 t h k) es ts hs ht
   Wo k.C hs h.1 h.2) e
def cT(n:Nat):∀e,CT gl Γ e:=cX (motive:=fun J=>∀e,CT gl Γ e) (fun J=>EY) (fun J r e=>cT1 f r e) n
def cB(b:List Stmt):CB gl Γ b:=bN (motive:=fun b=>CB gl Γ b) (bu .nil fun k=>RO) (fun st r ih=>bu (.cons (g st).1 ih.1) fun k=>NK k.C ((g st).2 k) (ih.2 k)) b
def ah1(o:me)(v:Expr)(p:Pos)(t:Expr):CS gl Γ (.AugAssign t o v p):=ue qu (RG o) fun b hb=>MR (P:=fun t=>CS gl Γ (.AugAssign t o v p)) (fun J=>qu)
  (fun x q=>KV qu Γ x fun i y hi hy=>bu (.aug (.v i) b (f v).1) fun k=>EK k.C hb hi hy (sT (f v) k))
  (fun a x q=>ue qu (uY x) fun n hn=>bu (.aug (.attr (f a).1 n) b (f v).1) fun k=>EL k.C hb hn (sT (f a) k) (sT (f v) k))
  (fun a j q=>yp qu (sZ j) fun h=>bu (.aug (.sub (f a).1 (f j).1) b (f v).1) fun k=>HM k.C hb h (sT (f a) k) (sT (f j) k) (sT (f v) k))
  (fun J J J=>qu) t
def vJ(tg:Expr){b:List Stmt}(y:CB gl Γ b)(p:Pos)(e:Expr):CS gl Γ (.For tg e b [] p):=yp qu (sj e) fun h=>ue qu (r tg).1 fun t ht=>bu (.fr t (f e).1 y.1) fun k=>WD k.C h (sT (f e) k) ((r tg).2 t ht k) (y.2 k)
def ah2(o:Expr)(x:PySem.Str)(ap cp:Pos){b:List Stmt}(y:CB gl Γ b)(p:Pos)(hx:(x=="items")=true)(tg:Expr):CS gl Γ (.For tg (.Call (.Attribute o x ap) [] [] cp) b [] p):=KU qu (isCall o) fun h=>yp qu (ap.endLine==cp.line) fun h2=>
 MR (P:=fun tg=>CS gl Γ (.For tg (.Call (.Attribute o x ap) [] [] cp) b [] p)) (fun J=>qu) (fun J J=>qu) (fun J J J=>qu) (fun J J J=>qu)
  (fun es n q=>ue qu (r (.Tuple es n q)).1 fun t ht=>bu (.UZ t (f o).1 y.1) fun k=>(gq hx).symm▸W0 k.C (fun env=>rJ h) h2 (sT (f o) k) ((r (.Tuple es n q)).2 t ht k) (y.2 k)) tg
def ah3(tg:Expr)(x:PySem.Str)(ep cp:Pos){b:List Stmt}(y:CB gl Γ b)(p:Pos)(hx:(x=="enumerate")=true)(es:List Expr):CS gl Γ (.For tg (.Call (.Name x ep) es [] cp) b [] p):=
 Sv (P:=fun es=>CS gl Γ (.For tg (.Call (.Name x ep) es [] cp) b [] p)) (fun J=>qu) (fun a=>yp qu (noStar a) fun ha=>GO (gl:=gl) qu Γ x fun h g=>by
  induction g using Gl.casesOn with
  |ty n=>
   exact fun hg=>yp qu (n=="enumerate") fun hn=>bu (.U0 (f a).1) fun k=>by
    obtain rfl:=gq hx
    exact WY k.C h (k.gg (hg.trans (gq hn▸rfl))) ha (sT (f a) k)
  |_=>exact fun J=>qu) es
def Xb(tg:Expr){b:List Stmt}(y:CB gl Γ b)(p:Pos)(h:Expr)(es:List Expr)(cp:Pos):CS gl Γ (.For tg (.Call h es [] cp) b [] p):=
 MR (P:=fun h=>CS gl Γ (.For tg (.Call h es [] cp) b [] p)) (fun J=>vJ f r tg y p _) (fun x ep=>yp (vJ f r tg y p _) (x=="enumerate") fun hx=>ah3 f tg x ep cp y p hx es)
  (fun o x ap=>yp (vJ f r tg y p _) (x=="items") fun hx=>aH (motive:=fun es=>CS gl Γ (.For tg (.Call (.Attribute o x ap) es [] cp) b [] p)) es (ah2 f r o x ap cp y p hx tg) fun J J=>qu)
  (fun J J J=>vJ f r tg y p _) (fun J J J=>vJ f r tg y p _) h
def ah4(tg:Expr){b:List Stmt}(y:CB gl Γ b)(p:Pos)(e:Expr):CS gl Γ (.For tg e b [] p):=
 Qn (P:=fun e=>CS gl Γ (.For tg e b [] p)) (fun J=>vJ f r tg y p _) (fun h es ks cp=>aH (motive:=fun ks=>CS gl Γ (.For tg (.Call h es ks cp) b [] p)) ks (Xb f r tg y p h es cp) fun J J=>qu)
  (fun J J J=>vJ f r tg y p _) (fun J J J=>vJ f r tg y p _) (fun J J J J=>vJ f r tg y p _) (fun J J J J=>vJ f r tg y p _) (fun J J J J=>vJ f r tg y p _) e
def U9(t v:Expr)(p:Pos)(h1:∀env,qG env Γ->iJ v (some t) p.line env=cL false)(h2:∀env,qG env Γ->gL [t] v env=cL none)(h3:∀env,eH [t] env=[(false,fv t env)]):CS gl Γ (.Assign [t] v p):=
 ue qu (r t).1 fun y hy=>bu (.asg y (f v).1) fun k=>Wu k.C h1 h2 h3 (sT (f v) k) ((r t).2 y hy k)
theorem A1{r:Bool}(V:qG env Γ)(h:(Γ.kinds.lookup x==some .local&&(q.line==p.line&& !(s.names.any fun(n,k)=>n==x&&(k==.local||k==.cell))))=r):iJ (.ListComp elt gs s p) (some (.Name x q)) n env=cL r:=by show cL ((env.blockKind==.function)&&(env.kindOf x==some .local)&&(q.line==p.line)&& !(s.names.any fun(n,k)=>n==x&&(k==.local||k==.cell)))=_;rw[(show(env.blockKind==.function)=true by unfold Env.blockKind;refine V.kind.symm▸?_;rfl),(show env.kindOf x=Γ.kinds.lookup x by unfold Env.kindOf;rw[V.names]),nz,mX,h]
theorem KW(h:isTup v=false):gL [.Tuple ts k p] v env=cL none:=by induction v using Expr.casesOn<;>first|rfl|exact b6 h
def ah5(F:∀Γ e,CE gl Γ e)(x:PySem.Str)(q p:Pos)(v:Expr):CS gl Γ (.Assign [.Name x q] v p):=
 Qn (P:=fun v=>CS gl Γ (.Assign [.Name x q] v p)) (fun J=>qu) (fun J J J J=>qu) (fun J J J=>qu) (fun J J J=>qu)
  (fun elt gs s p2=>KV qu Γ x fun i y hi hy=>yp (KU qu (Γ.kinds.lookup x==some .local&&(q.line==p2.line&& !(s.names.any fun(n,k)=>n==x&&(k==.local||k==.cell)))) fun hs=>U9 f r (.Name x q) _ p (fun env V=>A1 V hs) (fun J J=>rfl) (fun J=>rfl)) (Γ.kinds.lookup x==some .local&&(q.line==p2.line&& !(s.names.any fun(n,k)=>n==x&&(k==.local||k==.cell)))) fun hs=>
   Qo (β:=fun gs=>CS gl Γ (.Assign [.Name x q] (.ListComp elt gs s p2) p)) F (fun J=>qu) Γ s (fun tg iter ifs t g h=>bu (.asg (.v i) (.comp (u6 s.names).length (sG Γ.pl 0 (u6 s.names)) t (F Γ iter).1 g (F (xy Γ s.names) elt).1))
    fun k=>Sq k.C (fun env V=>A1 V hs) hi hy h.a h.b h.o (sT (F Γ iter) k) (fun W'=>h.t) (fun W'=>h.i (k.tJ W')) fun W'=>sT (F _ _) (k.tJ W')) gs)
  (fun J J J J=>qu) (fun J J J J=>qu) v
def Xc(t:Expr)(p:Pos)(h1:∀e gs s q env,iJ (.ListComp e gs s q) (some t) p.line env=cL false)(h2:∀v env,gL [t] v env=cL none)(h3:∀env,eH [t] env=[(false,fv t env)])(v:Expr):CS gl Γ (.Assign [t] v p):=
 KU (Qn (P:=fun v=>CS gl Γ (.Assign [t] v p)) (fun J=>qu) (fun J J J J=>qu) (fun J J J=>qu) (fun J J J=>qu) (fun e gs s q=>U9 f r t _ p (fun env J=>h1 _ _ _ _ env) (fun env J=>h2 _ env) h3) (fun J J J J=>qu) (fun J J J J=>qu) v) (xN v) fun h=>U9 f r t v p (fun env J=>xa h _ _ _) (fun env J=>h2 _ env) h3
theorem OG(hi:place Γ.pl x=some i)(hy:Γ.pl[i]? =some (y,true)):Aw Γ x=some (.v i):=by unfold Aw;refine hi▸?_;show md Γ.pl[i]? _=_;refine hy▸?_;rfl
def cIs(l:List PySem.Str):Option (Subtype fun is:List Nat=>is.length=l.length/\C0 (l.map (Aw Γ))=some (is.map T.v)):=
 bN (motive:=fun l=>Option (Subtype fun is:List Nat=>is.length=l.length/\C0 (l.map (Aw Γ))=some (is.map T.v))) (some ⟨[],rfl,rfl⟩) (fun x l ih=>ue none ih fun is J=>KV none Γ x fun i y hi hy=>some ⟨i::is.1,congrArg (· +1) is.2.1,by
  show C0 (Aw Γ x::l.map (Aw Γ))=_
  rw[OG hi hy]
  exact congrArg (oR (T.v i::·)) is.2.2⟩) l
def ah6(ts:List Expr)(n:Nat)(q p:Pos)(v:Expr):CS gl Γ (.Assign [.Tuple ts n q] v p):=
 MR (P:=fun v=>CS gl Γ (.Assign [.Tuple ts n q] v p)) (fun J=>qu) (fun J J=>qu) (fun J J J=>qu) (fun J J J=>qu) (fun vs m q2=>ue qu (Kf Γ ts vs) fun o ho=>by
  induction o using cO with
  |none=>exact U9 f r _ _ p (fun J J=>rfl) (fun env V=>GB V ho) (fun J=>rfl)
  |some ns=>exact ue qu (cIs ns.reverse) fun is J=>bu (.Ew is.1 (f (.Tuple vs m q2)).1) fun k=>Wv k.C ho (is.2.1.trans eV) is.2.2 (sT (f _) k)) v
def ah7(F:∀Γ e,CE gl Γ e)(v:Expr)(p:Pos)(t:Expr):CS gl Γ (.Assign [t] v p):=
 MR (P:=fun t=>CS gl Γ (.Assign [t] v p)) (fun J=>qu) (fun x q=>KU (ah5 f r F x q p v) (xN v) fun h=>U9 f r (.Name x q) v p (fun env J=>xa h _ _ _) (fun J J=>rfl) (fun J=>rfl))
  (fun o x q=>Xc f r _ p (fun J J J J J=>rfl) (fun J J=>rfl) (fun J=>rfl) v) (fun o i q=>Xc f r _ p (fun J J J J J=>rfl) (fun J J=>rfl) (fun J=>rfl) v)
  (fun ts n q=>KU qu (xN v) fun h=>KU (ah6 f r ts n q p v) (isTup v) fun h2=>U9 f r (.Tuple ts n q) v p (fun env J=>xa h _ _ _) (fun J J=>KW h2) (fun J=>rfl)) t
noncomputable def ah8(p:Pos)(o:Option Expr):CS gl Γ (.Return o p):=by
 induction o using cO with
 |none=>exact bu (.ret (.c .none)) fun k=>RU
 |some e=>exact bu (.ret (f e).1) fun k=>Wt (sT (f e) k)
def cS1(F:∀Γ e,CE gl Γ e)(st:Stmt):CS gl Γ st:=by
 induction st using Stmt.casesOn with
 |Pass p=>exact bu .pass fun k=>RP
 |Break p=>exact bu .brk fun k=>Ws
 |Continue p=>exact bu .cont fun k=>RQ
 |Expr e p=>exact KU qu (xN e) fun h=>bu (.expr (f e).1) fun k=>RT h (sT (f e) k)
 |Return o p=>exact ah8 f p o
 |Assign ts v p=>exact Sv (P:=fun ts=>CS gl Γ (.Assign ts v p)) (fun J=>qu) (ah7 f r F v p) ts
 |AugAssign t o v p=>exact ah1 f o v p t
 |If t a b p=>exact bu (.pT (f t).1 (cB g a).1 (cB g b).1) fun k=>af5 k.C (GN (f t) k) ((cB g a).2 k) ((cB g b).2 k)
 |While t b e p=>exact aH (motive:=fun e=>CS gl Γ (.While t b e p)) e (bu (.F8 (f t).1 (cB g b).1) fun k=>Ww k.C (GN (f t) k) ((cB g b).2 k)) fun J J=>qu
 |For tg i b e p=>exact aH (motive:=fun e=>CS gl Γ (.For tg i b e p)) e (ah4 f r tg (cB g b) p i) fun J J=>qu
 |_=>exact qu
end
def cS(m n:Nat):∀st,CS gl Γ st:=cX (motive:=fun J=>∀st,CS gl Γ st) (fun J=>qu) (fun J g st=>cS1 (cE m Γ) (cT (cE m Γ) m) g (cE m) st) n
def cSs(gl:PySem.Str->Option Gl)(Γ:Cx)(m n:Nat)(b:List Stmt):CB gl Γ b:=cB (cS m n) b
end
end
end
section
variable[Inhabited Tg]
noncomputable def Qp:{K:FuncData->List ai->Option (Array ai)->Sem (List (PySem.Str×ai))//∀fd vs,bindArgs fd ⟨vs,[]⟩=seqItems? fd.defaults>>=K fd vs}:=⟨_,fun fd vs=>rfl⟩
noncomputable def mkA(n:Nat):(Nat->ai)->List ai:=cX (motive:=fun J=>(Nat->ai)->List ai) (fun J=>[]) (fun J r g=>g 0::r fun i=>g (i+1)) n
theorem KX(vs:List ai):mkA vs.length (fun i=>vs.getD i .none)=vs:=by
 induction vs with
 |nil=>rfl
 |cons v vs ih=>exact congrArg (v::·) ih
def bdL(fd:FuncData)(dvs:List ai)(o:Option (Array ai)):List ((Nat->ai)->Sem (List (PySem.Str×ai))):=(dn (dvs.length+1)).map fun j g=>Qp.1 fd (mkA (fd.params.args.length - dvs.length+j) g) o
def bdR(fd:FuncData)(dvs:List ai):List ((Nat->ai)->Sem (List (PySem.Str×ai))):=(dn (dvs.length+1)).map fun j g=>cL ((fd.params.args.map (·.arg)).zip (mkA (fd.params.args.length - dvs.length+j) g++dvs.drop j))
theorem OH{n d v:Nat}(h1:v<=n)(h2:n<=v+d)(h3:d<=n):n - d+(v+d - n)=v:=by
 repeat first|clear n|clear d|clear v|clear h1
 obtain⟨k,rfl⟩:=Nat.exists_eq_add_of_le' h3;rw[iV,Nat.add_sub_add_right];exact Nat.add_sub_of_le (Nat.le_of_add_le_add_right h2)
theorem KY{n d v:Nat}(h1:v<=n)(h2:n<=v+d):v+(d - (v+d - n))=n:=by obtain⟨k,rfl⟩:=Nat.exists_eq_add_of_le h1;rw[Nat.add_sub_add_left,Nat.sub_sub_self (Nat.le_of_add_le_add_left h2)]
theorem OI{fd:FuncData}{s:Shared}{vs dvs:List ai}{o:Option (Array ai)}(hd:∀(M:je) (A:aU) (E:ai->Shared->Prop) (Q:Option (Array ai)->Shared->Prop),Q o s->aE M A (seqItems? fd.defaults) Q E s)(bd:bdL fd dvs o=bdR fd dvs)
  (h1:vs.length<=fd.params.args.length)(h2:fd.params.args.length<=vs.length+dvs.length)(h3:dvs.length<=fd.params.args.length):
  BindsTo s fd ⟨vs,[]⟩ ((fd.params.args.map (·.arg)).zip (vs++dvs.drop (vs.length+dvs.length - fd.params.args.length))):=fun M A E Q hQ=>by have e:=congrFun (lV.mp bd (vs.length+dvs.length - fd.params.args.length) (dG.mpr (fj (fJ (bk _ _▸aZ h1 _))))) fun i=>vs.getD i .none;rw[OH h1 h2 h3,KX]at e;exact Qp.2 fd vs▸af (hd _ _ _ _ (e▸az hQ))
end
section
variable[Inhabited Tg]
theorem zu{k:PySem.Str->Option cw}{x:PySem.Str}(bs:List (PySem.Str×ai)):∀m:PySem.Str->Option ai,x∉bs.map ar->bindL k bs m x=m x/\bindC k bs m x=m x:=by
 induction bs with
 |nil=>exact fun m J=>⟨rfl,rfl⟩
 |cons b bs ih=>
  intro m hx;rw[bindL,bindC,(ih _ fun z=>hx (.tail _ z)).1,(ih _ fun z=>hx (.tail _ z)).2];by_cases e:k b.1=some .local
  ·rw[if_pos e,if_pos e];exact⟨if_neg (show ¬x=b.1 from fun z=>hx (z▸.head _)),rfl⟩
  ·rw[if_neg e,if_neg e];exact⟨rfl,if_neg (show ¬x=b.1 from fun z=>hx (z▸.head _))⟩
theorem A2{k:PySem.Str->Option cw}{x:PySem.Str}{v:ai}(bs:List (PySem.Str×ai)):∀m m':PySem.Str->Option ai,(bs.map ar).Nodup->(x,v)∈bs->(k x=some .local->bindL k bs m x=some v)/\(k x≠some .local->bindC k bs m' x=some v):=by
 induction bs with
 |nil=>exact fun J J J h=>nomatch h
 |cons b r ih=>
  intro m m' nd h;rcases aA.mp h with e|e
  ·subst e;refine(zu r _ (aW.mp nd).1).1▸?_;refine(zu r _ (aW.mp nd).1).2▸?_;exact⟨fun h=>by rw[if_pos h];exact if_pos rfl,fun h=>by rw[if_neg h];exact if_pos rfl⟩
  ·exact ih _ _ (aW.mp nd).2 e
theorem EZ{k:PySem.Str->Option cw}{x:PySem.Str}{v:ai}(bs:List (PySem.Str×ai))(m:PySem.Str->Option ai)(nd:(bs.map ar).Nodup)(h:(x,v)∈bs)(hk:k x=some .local):bindL k bs m x=some v:=(A2 bs m m nd h).1 hk
theorem E1{k:PySem.Str->Option cw}{x:PySem.Str}{v:ai}(bs:List (PySem.Str×ai))(m:PySem.Str->Option ai)(nd:(bs.map ar).Nodup)(h:(x,v)∈bs)(hk:k x≠some .local):bindC k bs m x=some v:=(A2 bs m m nd h).2 hk
theorem Dr{i:Nat}:∀(ps:List Nat) (as:List V) (U:Loc),getL (qT ps as U) i=getL U i\/∃j:Nat,ps[j]? =some i/\as[j]? =some (getL (qT ps as U) i):=by
 intro ps;induction ps with
 |nil=>exact fun as U=>.inl (by induction as using aH<;>rfl)
 |cons p ps v8=>
  intro z2;cases z2 with
  |nil=>exact fun U=>.inl rfl
  |cons a as=>
   exact fun U=>by
    rcases v8 as (vq U p a)with(h:getL (qT (p::ps) (a::as) U) i=_)|⟨j,h1,h2⟩
    ·by_cases e:i=p
     ·subst e;by_cases hl:i<U.length
      ·exact .inr ⟨0,rfl,by rw[h,sR hl];rfl⟩
      ·left;rw[h,Di hl]
     ·exact .inl (by rw[h,ui e])
    ·exact .inr ⟨j+1,h1,h2⟩
theorem E2(ps:List Nat):∀(as:List V) (U:Loc),(qT ps as U).length=U.length:=by
 induction ps with
 |nil=>exact fun as U=>rfl
 |cons p ps ih=>
  intro as U;induction as with
  |nil=>rfl
  |cons a as=>exact(ih as _).trans vC
noncomputable def OJ(pl:List (PySem.Str×Bool)):List PySem.Str->Option (List Nat)
 |[]=>some []
 |x::r=>(place pl x).bind fun i=>(OJ pl r).map (i::·)
theorem KZ{pl:List (PySem.Str×Bool)}:∀{ns:List PySem.Str} {ps:List Nat},OJ pl ns=some ps->ps.length=ns.length/\∀(j i:Nat),ps[j]? =some i->∃x,ns[j]? =some x/\place pl x=some i:=by
 intro ns;induction ns with
 |nil=>exact @fun ps h=>by obtain rfl:=au h;exact⟨rfl,fun j i h=>nomatch h⟩
 |cons x r v8=>
  exact @fun ps h=>by
   obtain⟨i,Xd⟩:=cg.mp h;repeat first|clear pl|clear ns|clear ps|clear i|clear h
   obtain⟨is,Au⟩:=bG.mp Xd.2;obtain rfl:=Au.2;have Js:=v8 Au.1;refine⟨congrArg (· +1) Js.1,fun j k hk=>?_⟩;induction j using bz with
   |zero=>obtain rfl:=au hk;exact⟨x,rfl,Xd.1⟩
   |succ j=>exact Js.2 j k hk
def E3(fd:FuncData):Bool:=
 fd.scope.kind==.function&& !fd.scope.isCoroutine&& !fd.scope.isGenerator&&xT (fd.params.args.map (·.arg))&&xT (fd.scope.names.map ar)&&(fd.scope.names.all fun x=>qX x.1)&&(fd.scope.names.all fun x=> !(x.2==.free))&&
 fd.closure.isEmpty&&fd.globals==fS&&fd.builtins==mz
inductive Xe(c:Cfg)(f:Nat)(fn:Fn):Prop where
 |mk (o:Obj) (fd:FuncData) (body:List Stmt) (m n:Nat) (dvs:List ai) (go:c.B.get (c.fa f)=some o) (hd:o.data=.func fd) (hb:fd.body=.stmts body) (ft:E3 fd=true) (hcd:∀h,HI c.B h->h.CodeRec fd.code fd.qualname)
  (Z5:Option (Array ai)) (hdf:(fd.defaults=.none/\Z5=none)\/∃T ot k xs,fd.defaults=.ref T/\c.B.get T=some ot/\ot.data=.seq xs k/\Z5=some xs) (bd:bdL fd dvs Z5=bdR fd dvs) (Z1:dvs.length<=fd.params.args.length)
  (en:fn.n=(u6 fd.scope.names).length) (ep:OJ (u6 fd.scope.names) (fd.params.args.map (·.arg))=some fn.ps) (Ik:∀h,HI c.B h->qv h fn.dv dvs) (eb:fn.body=(cSs c.gl ⟨u6 fd.scope.names,fd.scope.names⟩ m n body).1)
structure Z6(c:Cfg)(ek:aU->EF):Prop where
 no:∀{A H s v s'},¬ek A H s ub v s'
 en:∀{A:aU} {env:Env} {W:Addr->Prop} {H H1:MH} {s s1 s':Shared} {X:QE} {v:ai},(∀b,W b->b=env.locals\/∃x,env.cells.lookup x=some b)->Nx W H s H1 s1->ek (A.deeper env) H1 s1 X v s'->ek (A.deeper env) H s X v s'
 own:∀{A:aU} {env:Env} {H:MH} {s:Shared} {X:QE},PassesOwn (aD c.prog c.w) (A.deeper env) env (ek (A.deeper env) H s X)
 leave:∀{A:aU} {env:Env} {H:MH} {s s1 s':Shared} {X:QE} {v:ai},Nx X0 H s H s1->(s.heap.get? env.locals=none)->ek (A.deeper env) H s1 X v s'->
  aE (aD c.prog c.w) (A.deeper env) (leaving env v) (fun J s''=>ek A H s X v s'') (fun e' s''=>ek A H s X e' s'') s'
 under:∀{A:aU} {C:Addr} {vs:List ai} {H:MH} {s s':Shared} {X:QE} {v:ai},ek (A.under (.builtin "type.__call__" ⟨.ref C::vs,[]⟩)) H s X v s'->ek A H s X v s'
structure OK(c:Cfg)(F:Nat->Option Fn):Prop where
 kb:xG c.K c.B
 tb:Rx c.K c.B c.Θ
 sm:c.B.get dq≠none
 main:∀h,HI c.B h->h.Ns LL c.B.mg->h.Ns fS c.gm
 val:∀x v,c.gl x=some (.val v)->∃u,c.gm x=some u/\∀h,HI c.B h->VR h v u
 fn:∀x f,c.gl x=some (.fn f)->c.gm x=some (.ref (c.fa f))/\hU c.K (.ref (c.fa f))=true
 blt:∀x b,c.gl x=some (.blt b)->yU c x (ED b)
 ty:∀x n,c.gl x=some (.ty n)->yU c x (.type n)
 cls:∀x C,c.gl x=some (.cls C)->c.gm x=some (.ref C)/\hU c.K (.ref C)=true
 new:∀C f,c.Θ.init C=some f->c.B.cls C/\makesIn c.K C=true/\eP c.K (.ref C) "__init__"=some (some (.ref (c.fa f)))/\lC c.K (.ref (c.fa f))=some (.type "function")
 pD:∀C k g,c.B.cls C->c.Θ.pD C k=some g->k<76/\eP c.K (.ref C) (AT k)=some (some (.ref (c.fa g)))/\lC c.K (.ref (c.fa g))=some (.type "function")/\hU c.K (.ref (c.fa g))=true
 lim:∀h,HI c.B h->h.NoLimit
 fns:∀f fn,F f=some fn->Xe c f fn
def Il(A:aU)(d:Nat):Prop:=A.handled=none/\A.depth+2*d<recursionLimit/\A.units+10*d+64<jf
noncomputable def Cfg.at(c:Cfg)(F:Nat->Option Fn)(d:Nat):Cfg:={c with call:=pz c.Θ F d}
theorem zv(C:Addr)(vs:List ai):(Code.builtin "type.__call__" ⟨.ref C::vs,[]⟩).weight=1/\(Code.builtin "type.__call__" ⟨.ref C::vs,[]⟩).cUnits=1:=by constructor<;>rfl
end
section
variable[Inhabited Tg]
section
variable{c:Cfg}{F:Nat->Option Fn}{ek:aU->EF}
def BN(c:Cfg)(F:Nat->Option Fn)(ek:aU->EF)(d:Nat)(A:aU):Prop:=∀f as vs H s Q X,Rel c.w.params c.B H s.heap->qv s.heap as vs->pz c.Θ F d f as H Q X->eB (aD c.prog c.w) A (.call (.ref (c.fa f)) ⟨vs,[]⟩) (nP (p6 c.w.params c.B H s Q) (ek A H s X)) s
theorem tabs_ok(T:OK c F)(K:Z6 c ek)(hW:∀b,W b->b=env.locals\/∃x,env.cells.lookup x=some b)(rm:Il A (d+1))(ih:∀A,Il A d->BN c F ek d A):(c.at F d).Ok (A.deeper env) W (ek (A.deeper env)) where
 hh:=rm.1
 en:=K.en hW
 no:=K.no
 kb:=T.kb
 tb:=T.tb
 sm:=T.sm
 main:=T.main
 val:=T.val
 fn:=T.fn
 blt:=T.blt
 ty:=T.ty
 cls:=T.cls
 new:=T.new
 pD:=T.pD
 hu:=by have:=rm.2.2;show A.units+3+64<jf;exact Z.o 0x1111290423113a1a1481161904233138116 [] [_,_,_] rfl this
 call:=ih (A.deeper env) ⟨rm.1,by have:=rm.2.1;show A.depth+1+2*d<_;exact Z.o 0x11112a113912148161a92141138116 [] [_,_,_] rfl this,by have:=rm.2.2;show A.units+3+10*d+64<_;exact Z.o 0x11112a042311391a1481161a04239a1431381116 [] [_,_,_] rfl this⟩
 init:=fun C Jn f as vs H s Q X R r q=>by
  have JZ:=zv C Jn
  have rm':Il ((A.deeper env).under (.builtin "type.__call__" ⟨.ref C::Jn,[]⟩)) d:=by
   refine⟨rm.1,?_,?_⟩
   ·have:=rm.2.1
    show A.depth+1+(Code.builtin "type.__call__" ⟨.ref C::Jn,[]⟩).weight+2*d<_
    rw[JZ.1];exact Z.o 0x11112a113912148161a921411311381116 [] [_,_,_] rfl this
   ·have:=rm.2.2
    show A.units+3+(Code.builtin "type.__call__" ⟨.ref C::Jn,[]⟩).cUnits+10*d+64<_
    rw[JZ.2];exact Z.o 0x11112a042311391a1481161a04239a14113313811116 [] [_,_,_] rfl this
  refine fy (ih _ rm' f as vs H s Q X R r q) fun z s' k=>?_
  induction z using fA with
  |error e=>exact K.under k
  |ok f=>induction f using jv<;>exact k
theorem Im(T:OK c F)(K:Z6 c ek)(ih:∀A,Il A d->BN c F ek d A)(A:aU)(rm:Il A (d+1)):BN c F ek (d+1) A:=fun f as vs H s Q X R r q=>by
 obtain⟨fn,Az⟩:=q;have q:=Az.2.2.2;obtain⟨o,fd,body,m,n,dvs,go,hd,hb,ft,hcd,Z5,hdf,bd,Z1,en,ep,Ik,eb⟩:=T.fns f fn Az.1;simp only[E3,aR,beq_iff_eq,dT,mm,bS]at ft;obtain⟨⟨⟨⟨⟨⟨⟨⟨⟨t1,t2⟩,t3⟩,t5⟩,t6⟩,t7⟩,t8⟩,t9⟩,t10⟩,t11⟩:=ft;have ndp:=uK t5;have Z7:=uK t6;obtain⟨Qq,pl2⟩:=KZ ep;rw[ah]at Qq;have lv:=r.length;have rdv:=Ik _ R.sup;have ldv:=rdv.length;refine codeAny_call_function (by have:=rm.2.1;exact Z.o 0x111129113a12148161986 [] [_,_,_] rfl this) (R.base _ _ go).1 hd t2 t3 hb (hcd _ R.sup) ?_;have g1:vs.length<=fd.params.args.length:=Z.o 0x1101111116a879b7ba53985 [] [_,_,_,_] rfl Az.2.1 Qq lv;have g2:fd.params.args.length<=vs.length+dvs.length:=Z.o 0x11011011011118da7c978b7dc1b54a9185 [] [_,_,_,_,_,_] rfl Az.2.2.1 Qq lv ldv;refine OI (vs:=vs) (dvs:=dvs) (fun M A' E' Q' k=>?_) bd g1 g2 Z1 _ _ _ _ ?_
 ·rcases hdf with⟨e1,e2⟩|⟨Td,ot,kk,xs,e1,e2,e3,e4⟩
  ·exact e1▸az (e2▸k)
  ·exact e1▸iC (R.base _ _ e2).1 e3 (e4▸k)
 have Sy:qv s.heap (as++fn.dv.drop (as.length+fn.dv.length - fn.ps.length)) (vs++dvs.drop (vs.length+dvs.length - fd.params.args.length)):=by rw[lv,ldv,<-Qq];exact r.append (rdv.drop _)
 generalize Sr:vs++dvs.drop (vs.length+dvs.length - fd.params.args.length)=vals at Sy;generalize av8:as++fn.dv.drop (as.length+fn.dv.length - fn.ps.length)=Z8 at Sy q;have ah9:vals.length=fd.params.args.length:=by rw[<-Sr,aa,eS];exact KY g1 g2
 have pn:∀j x,(fd.params.args.map (·.arg))[j]? =some x->∃i b,(u6 fd.scope.names)[i]? =some (x,b)/\fn.ps[j]? =some i/\place (u6 fd.scope.names) x=some i:=fun j x hx=>by
  have jl:j<fn.ps.length:=by rw[Qq];have:=(bK.mp hx).1;rwa[ah]at this
  obtain⟨x',z3_⟩:=pl2 j fn.ps[j] (bc jl);have e1:=z3_.1;rw[hx]at e1;cases e1;obtain⟨b,e3⟩:=tc z3_.2;exact⟨_,b,e3,bc jl,z3_.2⟩
 have kinds:∀i x b,(u6 fd.scope.names)[i]? =some (x,b)->b=true/\((x,NameKind.local)∈fd.scope.names\/(x,NameKind.cell)∈fd.scope.names):=fun i x b h=>by
  rcases BH (cv h)with z|⟨_,z⟩
  ·exact z
  ·exact b6 (t8 _ z)
 have Sz:((fd.params.args.map (·.arg)).zip vals).map ar=fd.params.args.map (·.arg):=List.map_fst_zip (by rw[ah,ah9];exact aF _);rw[t9];refine wpAny_newFunctionEnv_cells t1 (fun x hx=>?_) fun env he s' y=>⟨?_,codeAny_func ?_⟩
 ·have hm:x.1∈fd.params.args.map (·.arg):=by rw[<-Sz];exact aY.mpr ⟨x,hx,rfl⟩
  obtain⟨j,Xf⟩:=k5 hm;obtain⟨i,b,ai0⟩:=pn j x.1 (by rw[<-Xf.2];exact bc Xf.1);have e1:=ai0.1;rcases(kinds i x.1 b e1).2 with z|z
  ·exact .inl (p7 Z7 z)
  ·refine .inr ⟨p7 Z7 z,?_⟩;obtain⟨cc,hc⟩:=(qU (x:=x.1) fd.scope.names (s.heap.objs.size+1) []).1 z;rw[hc];rfl
 ·exact T.lim _ fun b o e=>y.toInCall.keep b o (R.base b o e).1
 ·have keep:=y.toInCall.keep;have R':Rel c.w.params c.B H s'.heap:=R.ext keep;obtain⟨h',tk,es⟩:=y.toInCall.same;have N0:Nx X0 H s H s':=by subst es;exact Nx.qR (t:=tk) ((R.max X0).ext keep) (pY.of fun b o J=>keep b o)
  have E4:env.scope=fd.scope:=by rw[he];rfl
  have SA:env.cells=eN (s.heap.objs.size+1) fd.scope.names []:=by rw[he];rfl
  have Qk:∀x k,(x,k)∈fd.scope.names->env.kindOf x=some k:=fun x k hx=>by unfold Env.kindOf;rw[E4];exact p7 Z7 hx
  have V:qG env ⟨u6 fd.scope.names,fd.scope.names⟩:=⟨by rw[E4];exact t1,by rw[E4],by rw[he];exact t10,by rw[he];exact t11⟩;have ge:∀b,(b=env.locals\/∃x,env.cells.lookup x=some b)->s.heap.objs.size<=b:=fun b hb=>by
   rcases hb with rfl|⟨x,hx⟩
   ·exact y.toInCall.fresh
   ·exact bC (bM y.toInCall.fresh (y.above x b (mem_of_lookup hx)))
  have Fm:pU (fun b=>b=env.locals\/∃x,env.cells.lookup x=some b) c.B H s'.heap env (u6 fd.scope.names) (qT fn.ps Z8 (aK fn.n .rG)):=by
   refine⟨V.kind,by rw[E2,dJ,en],fun i j x b b' h1 h2=>A0 (Z7.sublist (AZ _)) h1 h2,fun i x b h=>?_,⟨_,y.toInCall.ns,fun i x b h=>?_⟩,fun x x' cc h1 h2=>name_of_addr y.apart (mem_of_lookup h1) (mem_of_lookup h2),fun b hb=>?_,fun b hb=>hb⟩
   ·rcases(kinds i x b h).2 with z|z<;>exact t7 _ z
   ·obtain⟨rfl,kd⟩:=kinds i x b h;have val:getL (qT fn.ps Z8 (aK fn.n .rG)) i=.rG\/∃u,(x,u)∈(fd.params.args.map (·.arg)).zip vals/\VR s'.heap (getL (qT fn.ps Z8 (aK fn.n .rG)) i) u:=by
     rcases Dr (i:=i) fn.ps Z8 (aK fn.n .rG)with e|⟨j,e1,e2⟩
     ·exact .inl (by rw[e,Dj])
     ·obtain⟨x',Az⟩:=pl2 j i e1;obtain⟨b',e5⟩:=tc Az.2;rw[h]at e5;cases e5;obtain⟨u,Xg⟩:=Sy.get e2;refine .inr ⟨u,cv (i:=j) ?_,Xg.2.mono (pY.of fun b o J=>keep b o)⟩;rw[List.getElem?_zip_eq_some];exact⟨Az.1,Xg.1⟩
    rcases kd with z|z
    ·refine .inl ⟨Qk x _ z,fun J=>.inl rfl,fun nu=>?_⟩;rcases val with e|⟨u,e,ru⟩
     ·exact absurd e nu
     ·exact⟨u,EZ _ _ (by rw[Sz];exact ndp) e (Qk x _ z),ru⟩
    ·obtain⟨cc,hc⟩:=(qU (x:=x) fd.scope.names (s.heap.objs.size+1) []).1 z;have KA:env.cells.lookup x=some cc:=by rw[SA];exact hc
     refine .inr ⟨cc,_,.inl (Qk x _ z),KA,fun J=>.inr ⟨x,KA⟩,y.cell x cc KA,fun nu=>?_⟩;rcases val with e|⟨u,e,ru⟩
     ·exact absurd e nu
     ·exact⟨u,E1 _ _ (by rw[Sz];exact ndp) e (by rw[Qk x _ z];decide),ru⟩
   ·have ex:∃o,s'.heap.get? b=some o:=by
     rcases hb with rfl|⟨x,hx⟩
     ·obtain⟨o,_,_,e,_⟩:=y.toInCall.ns;exact⟨o,e⟩
     ·obtain⟨o,e,_⟩:=y.cell x b hx;exact⟨o,e⟩
    exact⟨ex,sJ R keep (ge b hb)⟩
  have C':(c.at F d).Ok (A.deeper env) (fun b=>b=env.locals\/∃x,env.cells.lookup x=some b) (ek (A.deeper env)):=tabs_ok T K (fun b hb=>hb) rm ih;have fresh:∀b,s.heap.objs.size<=b->s.heap.get? b=none:=fun b hb=>dO hb;rw[eb]at q;refine aB ((cSs c.gl ⟨u6 fd.scope.names,fd.scope.names⟩ m n body).2 ⟨c.at F d,A.deeper env,_,ek (A.deeper env),rfl,C'⟩ env _ H s' _ X V (fun J J J=>K.own) R' Fm q) (fun fl s2 z=>?_) fun e s2 z=>K.leave N0 (fresh _ (ge _ (.inl rfl))) z;obtain⟨fl',NL,H2,rf,R2,N2,F2,q2⟩:=z;have N3:Nx X0 H s H2 s2:=by have N:=N0.up.trans N2;exact⟨fun b o g J e w=>N.keep b o g (fun hb=>by rw[fresh b (ge b hb)]at e;cases e) e w,N.qb,N.gens,N.drawn,N.os⟩
  induction fl' using Fl.casesOn with
  |next=>cases rf;exact⟨.none,H2,tM.mpr rfl,R2,N3,q2⟩
  |ret v=>obtain⟨u,rfl,rv⟩:=rf;exact⟨v,H2,rv,R2,N3,q2⟩
  |brk=>exact q2.elim
  |cont=>exact q2.elim
theorem E5(T:OK c F)(K:Z6 c ek):∀(d:Nat) (A:aU),Il A d->BN c F ek d A:=by
 intro d;induction d with
 |zero=>exact fun J J=>fun f as vs H s Q X R r q=>q.elim
 |succ d ai1=>exact fun A rm=>Im T K (ai1) A rm
theorem ai2(c:Cfg):Z6 c (fun J=>E0) where
 no:=fun z=>z
 en:=fun J J z=>z
 own:=fun J J z=>z.elim
 leave:=fun J J z=>z.elim
 under:=fun z=>z
end
end
end Mine.Internal
namespace Mine.Internal
open PySem
noncomputable def K7:List (Nat×Nat):=[(197,8),(218,9),(239,10),(260,11),(281,12),(469,31),(553,36),(622,50),(775,60),(838,73),(880,77),(901,81)]
noncomputable def Qr:List (Nat×Nat×Nat):=[(469,47,32),(469,36,33),(469,27,34),(553,40,37),(553,7,38),(553,22,39),(553,23,40),(553,6,41),(553,34,42),(553,52,43),(553,62,44),(622,54,51),(622,13,52),(775,25,61),(775,72,62),(775,26,63),(775,11,64),(838,38,74),(838,58,75),(838,66,76),(880,48,78),(880,45,79),(880,21,80)]
noncomputable def attrL:List (Nat×Nat×V):=[(197,31,(.int 0)),(239,31,(.int 4)),(260,31,(.int 5)),(281,31,(.int 13)),(281,61,(.int 0))]
section
local macro_rules | `(#[$xs,*]) => do
 let mut r ← `(.nil)
 for x in xs.getElems.reverse do r ← `(.cons $x $r)
 return r
local macro_rules | `(.($t)) => `(.c (.int $t))
local macro_rules | `(!$t) => `(.v $t)
local macro_rules | `($a % $b) => `(.attr (.v $a) $b)
noncomputable def fn0:Fn:=⟨1,[0],[],#[.F8 (.c (.bool true)) #[.pass]]⟩
noncomputable def fn1:Fn:=⟨2,[0,1],[(.str (bj ""))],#[.asg (0%50) (!1)]⟩
noncomputable def fn2:Fn:=⟨3,[0,1,2],[],#[.ret (.band (.blt .ri #[!0,.c (.typ "int")]) (.band (.no (.blt .ri #[!0,.c (.typ "bool")])) (.uc .le .le (!1) (!0) (!2))))]⟩
noncomputable def fn3:Fn:=⟨1,[0],[],#[.pT (.bor (.no (.blt .ri #[!0,.c (.typ "int")])) (.blt .ri #[!0,.c (.typ "bool")])) #[.bad] .nil,.ret (!0)]⟩
noncomputable def fn4:Fn:=⟨1,[0],[],#[.pT (.no (.uc .le .le (.neg .(2147483647)) (.call 3 #[!0]) .(2147483647))) #[.bad] .nil,.ret (!0)]⟩
noncomputable def Ds:Fn:=⟨1,[0],[],#[.pT (.no (.uc .le .le (.neg .(1073741823)) (.call 3 #[!0]) .(1073741823))) #[.bad] .nil,.ret (!0)]⟩
noncomputable def fn6:Fn:=⟨2,[0,1],[],#[.pT (.cmp .le (!1) .(0)) #[.bad] .nil,.pT (.cmp .lt (!0) .(0)) #[.ret (.neg (.bin .fdiv (.bin .sub (!1) (.bin .mul .(2) (!0))) (.bin .mul .(2) (!1))))] .nil,.ret (.bin .fdiv (.bin .add (.bin .mul .(2) (!0)) (!1)) (.bin .mul .(2) (!1)))]⟩
noncomputable def qE:Fn:=⟨1,[0],[],#[.pT (.no (.call 2 #[!0,.(0),.(255)])) #[.bad] .nil,.ret (!0)]⟩
noncomputable def fn8:Fn:=⟨3,[0,1,2],[],#[.asg (0%17) (!1),.asg (0%8) (.call 7 #[!2])]⟩
noncomputable def fn9:Fn:=⟨6,[0,1,2,3,4,5],[],#[.pT (.no (.call 2 #[!1,.(2),.(3)])) #[.bad] .nil,.asg (0%31) (!1),.asg (0%72) (.call 5 #[!2]),.asg (0%26) (.call 5 #[!3]),.asg (0%11) (.call 5 #[!4]),.asg (0%29) (!5),.asg (0%53) .(0),.asg (0%57) .(0),.asg (0%41) .(0),.asg (0%49) (.tup #[.(0),.(1)])]⟩
noncomputable def SD:Fn:=⟨5,[0,1,2,3],[],#[.fr (!4) (.tup #[!1,!2,!3]) #[.pT (.cmp .uh (!4) (.c .none)) #[.expr (.call 5 #[!4])] .nil],.asg (0%72) (!1),.asg (0%26) (!2),.asg (0%11) (!3)]⟩
noncomputable def SE:Fn:=⟨3,[0,1,2],[],#[.pT (.no (.call 2 #[!2,.(0),.(3)])) #[.bad] .nil,.asg (0%72) (.call 5 #[!1]),.asg (0%61) (!2)]⟩
noncomputable def SF:Fn:=⟨3,[0,1],[],#[.pT (.no (.blt .ri #[!1,.tup #[.c (.typ "bytes"),.c (.typ "bytearray"),.c (.typ "list"),.c (.typ "tuple")]])) #[.bad] .nil,.fr (!2) (!1) #[.pT (.no (.call 2 #[!2,.(0),.(255)])) #[.bad] .nil],.asg (0%39) (.blt .bytes #[!1])]⟩
noncomputable def E6:Fn:=⟨2,[0],[],#[.asg (!1) (0%31),.pT (.bor (.cmp .eq (!1) .(0)) (.cmp .eq (!1) .(1))) #[.ret (.pD (0%17) 72 #[0%8])] .nil,.pT (.bor (.cmp .eq (!1) .(2)) (.bor (.cmp .eq (!1) .(3)) (.bor (.cmp .eq (!1) .(5)) (.bor (.cmp .eq (!1) .(12)) (.cmp .eq (!1) .(14)))))) #[.ret (0%72)] .nil,.pT (.cmp .eq (!1) .(4)) #[.ret (.ite (.cmp .Aq (0%72) (.c .none)) .(0) (0%72))] .nil,.pT (.cmp .eq (!1) .(6)) #[.ret (.attr (0%20) 72)] .nil,.pT (.cmp .eq (!1) .(8)) #[.ret (.blt .sum #[.comp 2 [] (!1) (0%35) (.c (.bool true)) (.call 13 #[!1])])] .nil,.ret .(0)]⟩
noncomputable def ai3:Fn:=⟨2,[0],[],#[.asg (!1) (0%31),.pT (.bor (.cmp .eq (!1) .(0)) (.cmp .eq (!1) .(1))) #[.ret (.pD (0%17) 26 #[0%8])] .nil,.pT (.bor (.cmp .eq (!1) .(2)) (.bor (.cmp .eq (!1) .(3)) (.cmp .eq (!1) .(14)))) #[.ret (0%26)] .nil,.pT (.cmp .eq (!1) .(4)) #[.ret (.ite (.cmp .Aq (0%26) (.c .none)) .(0) (0%26))] .nil,.pT (.band (.cmp .eq (!1) .(6)) (.cmp .uh (0%33) (.c .none))) #[.ret (.call 14 #[0%33])] .nil,.pT (.cmp .eq (!1) .(8)) #[.ret (.blt .max #[.bin .add (.lst #[.(0)]) (.comp 2 [] (!1) (0%35) (.c (.bool true)) (.call 16 #[!1]))])] .nil,.ret .(0)]⟩
noncomputable def ai4:Fn:=⟨2,[0],[],#[.asg (!1) (0%31),.pT (.bor (.cmp .eq (!1) .(0)) (.cmp .eq (!1) .(1))) #[.ret (.pD (0%17) 11 #[0%8])] .nil,.pT (.bor (.cmp .eq (!1) .(2)) (.bor (.cmp .eq (!1) .(3)) (.cmp .eq (!1) .(14)))) #[.ret (0%11)] .nil,.pT (.cmp .eq (!1) .(4)) #[.ret (.ite (.cmp .Aq (0%11) (.c .none)) .(0) (0%11))] .nil,.pT (.band (.cmp .eq (!1) .(6)) (.cmp .uh (0%33) (.c .none))) #[.ret (.call 15 #[0%33])] .nil,.pT (.cmp .eq (!1) .(8)) #[.ret (.blt .max #[.bin .add (.lst #[.(0)]) (.comp 2 [] (!1) (0%35) (.c (.bool true)) (.call 17 #[!1]))])] .nil,.ret .(0)]⟩
noncomputable def ai5:Fn:=⟨1,[0],[],#[.pT (.bor (.cmp .eq (0%31) .(2)) (.cmp .eq (0%31) .(3))) #[.ret (.bin .sub (0%26) (0%53))] .nil,.ret (.call 14 #[!0])]⟩
noncomputable def ai6:Fn:=⟨1,[0],[],#[.pT (.bor (.cmp .eq (0%31) .(2)) (.cmp .eq (0%31) .(3))) #[.ret (.bin .add (0%11) (0%53))] .nil,.ret (.call 15 #[!0])]⟩
noncomputable def ai7:Fn:=⟨11,[0,1,2,3,4],[],#[.asg (!5) (0%33),.pT (.bor (.cmp .Aq (!5) (.c .none)) (.cmp .eq (5%31) .(4))) #[.ret (.lst .nil)] .nil,.asg (!6) (.ite (!4) (.bin .add (5%26) (5%11)) (5%72)),.pT (.bor (.cmp .le (!6) .(0)) (.cmp .le (!2) .(0))) #[.ret (.lst .nil)] .nil,.asg (.tup #[!7,!8]) (.tup #[.bin .fdiv (!2) (!6),.bin .mod (!2) (!6)]),.pT (.cmp .gt (!7) .(2000)) #[.bad] .nil,.pT (.cmp .eq (0%61) .(1)) #[.asg (!9) (.bin .sub (!3) (.bin .mul (.bin .fdiv (.bin .sub (!3) (!1)) (!6)) (!6))),.asg (!7) (.blt .max #[.(0),.bin .fdiv (.bin .sub (.bin .add (!1) (!2)) (!9)) (!6)]),.ret (.comp 4 [(2,9),(3,6)] (!1) (.blt .range #[!7]) (.c (.bool true)) (.bin .add (!2) (.bin .mul (!3) (!1))))] .nil,.pT (.cmp .eq (0%61) .(2)) #[.ret (.comp 5 [(2,1),(3,8),(4,6)] (!1) (.blt .range #[!7]) (.c (.bool true)) (.bin .add (.bin .add (!2) (.bin .fdiv (!3) .(2))) (.bin .mul (!4) (!1))))] .nil,.asg (!10) (.bin .fdiv (!8) (.bin .add (!7) .(1))),.asg (!9) (.bin .add (!1) (.bin .fdiv (.bin .sub (!8) (.bin .mul (.bin .sub (!7) .(1)) (!10))) .(2))),.ret (.comp 5 [(2,10),(3,9),(4,6)] (!1) (.blt .range #[!7]) (.c (.bool true)) (.bin .add (!3) (.bin .mul (.bin .add (!4) (!2)) (!1))))]⟩
noncomputable def SG:Fn:=⟨4,[0,1],[],#[.pT (.cmp .eq (1%31) .(2)) #[.asg (!2) (.ite (.cmp .Aq (0%26) (.c .none)) (1%26) (0%26)),.ret (.tup #[.ite (.cmp .Aq (0%72) (.c .none)) .(0) (0%72),!2,.ite (.cmp .Aq (0%11) (.c .none)) (1%11) (0%11)])] .nil,.asg (!3) (.ite (.cmp .Aq (0%72) (.c .none)) (1%72) (0%72)),.ret (.tup #[!3,.ite (.cmp .Aq (0%26) (.c .none)) .(0) (0%26),.ite (.cmp .Aq (0%11) (.c .none)) .(0) (0%11)])]⟩
noncomputable def ai8:Fn:=⟨2,[0],[],#[.fr (!1) (!0) #[.pT (.bor (.cmp .eq (1%31) .(0)) (.bor (.cmp .eq (1%31) .(1)) (.bor (.cmp .eq (1%31) .(8)) (.cmp .eq (1%31) .(12))))) #[.bad] .nil]]⟩
noncomputable def ai9:Fn:=⟨2,[0,1],[],#[.pT (.band (.cmp .eq (0%57) .(1)) (.cmp .eq (1%65) (0%41))) #[.ret (1%64)] .nil,.pT (.band (.cmp .eq (0%57) .(2)) (.cmp .eq (1%56) (0%41))) #[.ret (.neg (1%55))] .nil,.ret .(0)]⟩
noncomputable def SH:Fn:=⟨2,[0,1],[],#[.ret (.call 6 #[.bin .mul (.sub (0%49) .(0)) (!1),.sub (0%49) .(1)])]⟩
noncomputable def SI:Fn:=⟨2,[0,1],[],#[.pT (.cmp .eq (0%31) .(2)) #[.ret (.call 13 #[!1])] .nil,.ret (.ite (.cmp .eq (1%31) .(5)) (1%72) (.bin .add (.call 14 #[!1]) (.call 15 #[!1])))]⟩
noncomputable def K8:Fn:=⟨5,[0],[],#[.pT (.cmp .eq (0%31) .(3)) #[.expr (.call 20 #[0%29])] .nil,.asg (!1) (.lst #[.(0)]),.asg (.tup #[!2,!3]) (.tup #[.(0),.(0)]),.fr (!4) (0%29) #[.pT (.cmp .eq (4%31) .(6)) #[.asg (!2) (.bin .add (!2) (.attr (4%20) 72)),.asg (!3) (.bin .add (!3) (.call 21 #[!0,4%20]))] #[.asg (!2) (.bin .add (!2) (.call 23 #[!0,!4]))],.expr (.pD (!1) 1 #[.bin .add (!2) (.call 22 #[!0,!3])])],.ret (!1)]⟩
noncomputable def SJ:Fn:=⟨4,[0,1,2],[],#[.fr (!3) (.blt .range #[.bin .sub (!2) .(1),.neg .(1),.neg .(1)]) #[.expr (.pD (!0) 1 #[.bin .mod (.bin .fdiv (!1) (.bin .pow .(256) (!3))) .(256)])]]⟩
noncomputable def SK:Fn:=⟨4,[0,1,2],[],#[.asg (!3) .(1),.F8 (.band (.cmp .lt (!3) .(4)) (.cmp .ge (.blt .abs #[!2]) (.bin .mul .(128) (.bin .pow .(256) (.bin .sub (!3) .(1)))))) #[.aug (!3) .add .(1)],.expr (.pD (!0) 1 #[.bin .sub (.bin .add (!1) (!3)) .(1)]),.expr (.call 25 #[!0,!2,!3])]⟩
noncomputable def SM:Fn:=⟨4,[0,1,2],[],#[.asg (!3) .(1),.F8 (.band (.cmp .lt (!3) .(4)) (.cmp .ge (!2) (.bin .pow .(256) (!3)))) #[.aug (!3) .add .(1)],.expr (.pD (!0) 1 #[.bin .sub (.bin .add (!1) (!3)) .(1)]),.expr (.call 25 #[!0,!2,!3])]⟩
noncomputable def SN:Fn:=⟨1,[0],[],#[.expr (.call 25 #[!0,.(25400000),.(4)]),.expr (.call 25 #[!0,.(473628672),.(4)]),.expr (.call 25 #[!0,.(1000),.(4)])]⟩
noncomputable def SO:Fn:=⟨3,[0,1],[],#[.pT (.bor (.cmp .gt (.blt .len #[1%37]) .(255)) (.cmp .ne (.comp 2 [] (!1) (1%37) (.cmp .gt (.blt .ord #[!1]) .(255)) (!1)) (.lst .nil))) #[.bad] .nil,.expr (.call 27 #[!0,.(243),1%38]),.expr (.call 25 #[!0,1%5,.(4)]),.expr (.call 25 #[!0,1%59,.(4)]),.expr (.call 25 #[!0,1%12,.(4)]),.expr (.pD (!0) 1 #[.(0)]),.expr (.pD (!0) 1 #[.blt .len #[1%37]]),.fr (!2) (1%37) #[.expr (.pD (!0) 1 #[.blt .ord #[!2]])]]⟩
noncomputable def SQ:Fn:=⟨1,[0],[],#[.pT (.cmp .gt (.blt .abs #[!0]) .(1073741823)) #[.bad] .nil,.ret (!0)]⟩
noncomputable def SR:Fn:=⟨2,[0,1],[],#[.asg (0%44) (!1),.asg (0%51) (.lst .nil)]⟩
noncomputable def SU:Fn:=⟨2,[0,1],[],#[.F8 (.band (.cmp .gt (.blt .len #[0%51]) .(0)) (.cmp .ge (.sub (.sub (0%51) (.neg .(1))) .(1)) (!1))) #[.expr (.pD (0%51) 45 .nil)]]⟩
noncomputable def E7:Fn:=⟨6,[0,1,2],[],#[.asg (!3) (.pD (!0) 27 #[!1,!2]),.pT (.cmp .lt (!3) .(0)) #[.expr (.pD (0%51) 1 #[.lst #[!2,.blt .len #[!1],.(0)]]),.expr (.call 26 #[!1,0%44,!2]),.ret (.c .none)] .nil,.asg (!4) (.sub (.sub (0%51) (!3)) .(2)),.fr (!5) (.Al (0%51) (.bin .add (!3) .(1)) (.c .none)) #[.asg (.sub (!5) .(2)) (.call 35 #[.sub (!5) .(2),!4])],.expr (.pD (0%51) 1 #[.lst #[!2,.blt .len #[!1],!4]]),.expr (.pD (!1) 1 #[.bin .add (0%44) (.ite (.cmp .eq (!4) .(4)) .(4) .(9))])]⟩
noncomputable def K9:Fn:=⟨8,[0,1,2],[],#[.asg (!3) .(0),.fr (!4) (.blt .range #[.bin .sub (.blt .len #[0%51]) .(1),.neg .(1),.neg .(1)]) #[.asg (.tup #[!5,!6,!7]) (.sub (0%51) (!4)),.pT (.cmp .eq (!5) (!2)) #[.pT (.bor (.band (.cmp .eq (!7) .(4)) (.cmp .ne (!3) .(1))) (.band (.cmp .eq (!7) .(5)) (.cmp .ne (!3) .(2)))) #[.ret (!4)] .nil,.pT (.band (.bor (.cmp .eq (!7) .(0)) (.cmp .eq (!7) .(1))) (.cmp .ne (!3) .(1))) #[.aug (.sub (!1) (!6)) .add .(5),.asg (.sub (.sub (0%51) (!4)) .(2)) .(4),.ret (!4)] .nil,.pT (.band (.bor (.cmp .eq (!7) .(0)) (.cmp .eq (!7) .(2))) (.cmp .ne (!3) .(2))) #[.aug (.sub (!1) (!6)) .add .(10),.asg (.sub (.sub (0%51) (!4)) .(2)) .(5),.ret (!4)] .nil] #[.pT (.cmp .eq (!7) .(4)) #[.pT (.cmp .eq (!3) .(2)) #[.ret (.neg .(1))] .nil,.asg (!3) .(1)] #[.pT (.cmp .eq (!7) .(5)) #[.pT (.cmp .eq (!3) .(1)) #[.ret (.neg .(1))] .nil,.asg (!3) .(2)] .nil]]],.ret (.neg .(1))]⟩
noncomputable def SV:Fn:=⟨2,[0,1],[],#[.pT (.cmp .eq (!1) .(4)) #[.ret (.ite (.cmp .eq (!0) .(0)) .(2) (.ite (.cmp .eq (!0) .(1)) .(3) (!0)))] .nil,.ret (.ite (.cmp .eq (!0) .(0)) .(1) (.ite (.cmp .eq (!0) .(2)) .(3) (!0)))]⟩
noncomputable def SW:Fn:=⟨3,[0,1,2],[],#[.asg (0%39) (.lst .nil),.asg (0%18) (.blt .dict #[!1]),.asg (0%11) (!2),.asg (0%24) .(0),.asg (0%69) .(0),.asg (0%17) (.neg .(1)),.asg (0%0) (.new 469 #[.(143)]),.asg (0%14) (.new 469 #[.(157)]),.asg (0%10) .(0)]⟩
noncomputable def La:Fn:=⟨2,[0,1],[],#[.pT (.cmp .gt (!1) (0%11)) #[.bad] .nil,.pT (.cmp .gt (!1) .(0)) #[.expr (.pD (0%39) 1 #[.(141)])] .nil,.ret (.blt .len #[0%39])]⟩
noncomputable def E8:Fn:=⟨3,[0,1,2],[],#[.expr (.pD (0%0) 47 #[!1]),.expr (.pD (0%14) 47 #[!1]),.pT (.band (.cmp .gt (!2) .(0)) (.cmp .eq (.blt .len #[0%39]) (!1))) #[.expr (.pD (0%39) 45 .nil)] #[.pT (.cmp .gt (!2) .(0)) #[.expr (.pD (0%39) 1 #[.(142)]),.asg (0%10) (.blt .max #[0%10,!2])] .nil]]⟩
noncomputable def SX:Fn:=⟨2,[0,1],[],#[.expr (.call 30 #[!1]),.pT (.cmp .ne (!1) (0%24)) #[.expr (.pD (0%0) 36 #[0%39,.bin .sub (!1) (0%24)]),.asg (0%24) (!1)] .nil]⟩
noncomputable def SY:Fn:=⟨2,[0,1],[],#[.expr (.call 30 #[!1]),.pT (.cmp .ne (!1) (0%69)) #[.expr (.pD (0%14) 36 #[0%39,.bin .sub (!1) (0%69)]),.asg (0%69) (!1)] .nil]⟩
noncomputable def S0:Fn:=⟨3,[0,1],[],#[.asg (!2) (.pD (0%18) 19 #[1%38]),.pT (.cmp .Aq (!2) (.c .none)) #[.expr (.call 29 #[0%39,!1]),.asg (.sub (0%18) (1%38)) (!1)] #[.pT (.cmp .uh (!2) (!1)) #[.bad] .nil],.pT (.cmp .ne (1%38) (0%17)) #[.pT (.cmp .lt (1%38) .(64)) #[.expr (.pD (0%39) 1 #[.bin .add .(171) (1%38)])] #[.expr (.call 27 #[0%39,.(235),1%38])],.asg (0%17) (1%38)] .nil]⟩
noncomputable def S2:Fn:=⟨5,[0,1,2,3,4],[],#[.pT (.no (.pD (!1) 25 #[!2])) #[.bad] .nil,.expr (.pD (!0) 22 #[!3]),.expr (.pD (!0) 23 #[!4]),.expr (.pD (!0) 6 #[!1]),.pT (.cmp .ge (!2) .(128)) #[.expr (.pD (0%39) 1 #[.(128)])] .nil,.expr (.pD (0%39) 1 #[!2]),.asg (0%24) (.call 30 #[.bin .add (!3) (.pD (!1) 72 #[!2])])]⟩
noncomputable def S3:Fn:=⟨6,[0,1,2,3,4,5],[],#[.expr (.call 4 #[!1]),.expr (.call 4 #[!2]),.pT (.bor (.cmp .le (!1) .(0)) (.cmp .le (!2) .(0))) #[.ret (.c .none)] .nil,.expr (.pD (!0) 22 #[!3]),.expr (.pD (!0) 23 #[!4]),.expr (.pD (0%39) 1 #[.ite (!5) .(132) .(137)]),.expr (.call 25 #[0%39,!1,.(4)]),.expr (.call 25 #[0%39,!2,.(4)]),.pT (!5) #[.asg (0%24) (.call 30 #[.bin .add (!3) (!2)])] .nil]⟩
noncomputable def S4:Fn:=⟨4,[0,1,2,3],[],#[.expr (.pD (!0) 22 #[!2]),.expr (.pD (!0) 23 #[!3]),.expr (.call 27 #[0%39,.(239),.blt .len #[!1]]),.expr (.pD (0%39) 16 #[!1])]⟩
noncomputable def Lb:Fn:=⟨8,[0],[],#[.Ew [2,1] (.tup #[.call 24 #[!0],.lst .nil]),.fr (!3) (.blt .range #[.blt .len #[0%29]]) #[.Ew [5,4] (.tup #[.sub (0%29) (!3),.sub (!1) (!3)]),.pT (.band (.cmp .eq (4%31) .(8)) (.cmp .eq (0%31) .(2))) #[.fr (!6) (4%35) #[.asg (!7) (.bin .add (!5) (.call 13 #[!6])),.expr (.pD (!2) 1 #[.tup #[!6,!5,!7]]),.asg (!5) (!7)]] #[.expr (.pD (!2) 1 #[.tup #[!4,!5,.sub (!1) (.bin .add (!3) .(1))]])]],.ret (!2)]⟩
noncomputable def E9:Fn:=⟨13,[0,1,2,3,4],[],#[.Ew [6,5] (.tup #[.sub (!2) .(0),.bin .add (!3) (.sub (!2) .(1))]),.asg (!7) (5%31),.pT (.bor (.cmp .eq (!7) .(0)) (.cmp .eq (!7) .(1))) #[.expr (.pD (!0) 34 #[5%17,5%8,!6,!4])] #[.pT (.bor (.cmp .eq (!7) .(2)) (.cmp .eq (!7) .(3))) #[.pT (.cmp .ne (5%29) (.lst .nil)) #[.ret (.lst #[.tup #[!5,!6,.bin .add (!4) (5%53),.c (.bool false)]])] .nil] #[.pT (.cmp .eq (!7) .(13)) #[.pT (.cmp .eq (5%61) .(0)) #[.expr (.pD (!0) 62 #[5%39,!6,!4])] .nil] #[.pT (.bor (.cmp .eq (!7) .(4)) (.band (.cmp .eq (!7) .(6)) (.cmp .uh (5%33) (.c .none)))) #[.asg (!8) (.ite (.cmp .eq (!7) .(4)) (!5) (5%33)),.asg (!9) (.bin .sub (.sub (!2) .(2)) (.sub (!2) .(1))),.pT (.cmp .ne (8%31) .(4)) #[.ret (.comp 4 [(2,4),(3,8)] (!1) (.call 18 #[!5,!6,!9,!3,.c (.bool false)]) (.c (.bool true)) (.tup #[!3,!1,.bin .add (!2) (3%53),.c (.bool true)]))] .nil,.asg (.tup #[!10,!11,!12]) (.call 19 #[!8,!1]),.expr (.pD (!0) 52 #[.bin .add (!11) (!12),.ite (.cmp .eq (!7) .(4)) (!10) (!9),!6,.bin .add (!4) (!12),.c (.bool true)])] #[.pT (.cmp .wq (!7) (.c (.tup [(.int 5),(.int 6),(.int 7),(.int 9),(.int 10),(.int 11),(.int 12)]))) #[.bad] .nil]]]],.ret (.lst .nil)]⟩
noncomputable def aj0:Fn:=⟨13,[0,1,2,3,4],[],#[.Ew [6,5] (.tup #[.sub (!2) .(0),.bin .add (!4) (.sub (!2) .(1))]),.asg (!7) (5%31),.pT (.bor (.cmp .eq (!7) .(2)) (.cmp .eq (!7) .(3))) #[.pT (.cmp .ne (5%29) (.lst .nil)) #[.ret (.lst #[.tup #[!5,.bin .add (!3) (5%53),.bin .add (!6) (5%26),.c (.bool false)]])] .nil] #[.pT (.cmp .eq (!7) .(13)) #[.pT (.cmp .eq (5%61) .(0)) #[.expr (.pD (!0) 62 #[5%39,!3,!6])] .nil] #[.pT (.bor (.cmp .eq (!7) .(4)) (.band (.cmp .eq (!7) .(6)) (.cmp .uh (5%33) (.c .none)))) #[.asg (!8) (.ite (.cmp .eq (!7) .(4)) (!5) (5%33)),.asg (!9) (.bin .sub (.sub (!2) .(2)) (.sub (!2) .(1))),.pT (.cmp .ne (8%31) .(4)) #[.ret (.comp 4 [(2,3),(3,8)] (!1) (.call 18 #[!5,!6,!9,!4,.c (.bool true)]) (.c (.bool true)) (.tup #[!3,.bin .add (!2) (3%53),.bin .add (!1) (3%26),.c (.bool true)]))] .nil,.asg (.tup #[!10,!11,!12]) (.call 19 #[!8,!1]),.pT (.cmp .eq (!7) .(4)) #[.asg (!9) (.bin .add (!11) (!12))] .nil,.expr (.pD (!0) 52 #[!9,!10,!3,.bin .add (!6) (!9),.c (.bool false)])] #[.pT (.cmp .wq (!7) (.c (.tup [(.int 5),(.int 6),(.int 7),(.int 9),(.int 10)]))) #[.bad] .nil]]],.ret (.lst .nil)]⟩
noncomputable def Fb:Fn:=⟨15,[0,1,2,3,4],[],#[.asg (!5) (.pD (!0) 40 #[!4]),.asg (!6) (.cmp .eq (1%31) .(3)),.fr (!7) (.call 45 #[!1]) #[.pT (!6) #[.asg (!8) (.call 47 #[!0,!1,!7,!2,.bin .sub (!3) (1%26)])] #[.asg (!8) (.call 46 #[!0,!1,!7,!2,!3])],.fr (.tup #[!9,!10,!11,!12]) (!8) #[.pT (.bor (!12) (!6)) #[.expr (.pD (!0) 23 #[!11])] .nil,.pT (!12) #[.expr (.pD (!0) 22 #[!10])] .nil,.Ew [14,13] (.tup #[0%24,0%69]),.expr (.call 48 #[!0,!9,!10,!11,.bin .add (!4) .(1)]),.asg (.tup #[0%24,0%69]) (.tup #[!13,!14])]],.expr (.pD (!0) 7 #[!5,!4])]⟩
noncomputable def S5:Fn:=⟨3,[0,1,2],[],#[.pT (.bor (.cmp .Aq (!0) (.c .none)) (.band (.cmp .ne (0%31) .(2)) (.cmp .ne (0%31) .(3)))) #[.bad] .nil,.expr (.call 5 #[!1]),.expr (.call 5 #[!2]),.pT (.cmp .gt (.blt .max #[0%26,0%11,.bin .add (.bin .add (0%26) (0%11)) (!2),.bin .add (0%72) (!1)]) .(1073741823)) #[.bad] .nil]⟩
noncomputable def Fc:Fn:=⟨3,[0,1],[(.int 40)],#[.pT (.no (.call 2 #[!1,.(0),.(60)])) #[.bad] .nil,.asg (0%11) (!1),.asg (0%39) (.lst #[.(247),.(2)]),.expr (.call 28 #[0%39]),.expr (.pD (0%39) 1 #[.blt .len #[.c (.str (bj "gluepage"))]]),.fr (!2) (.c (.str (bj "gluepage"))) #[.expr (.pD (0%39) 1 #[.blt .ord #[!2]])],.asg (0%18) (.uH [] .nil),.asg (0%42) .(0),.asg (0%32) (.neg .(1)),.asg (0%67) .(0),.asg (0%71) .(0),.asg (0%10) .(0)]⟩
noncomputable def Fd:Fn:=⟨7,[0,1,2,3,4],[(.tup []),(.int 0),(.int 0)],#[.pT (.cmp .gt (.blt .len #[!2]) .(10)) #[.bad] .nil,.expr (.call 49 #[!1,!3,!4]),.asg (!5) (.new 553 #[0%18,0%11]),.expr (.pD (5%39) 1 #[.(139)]),.fr (!6) (.blt .range #[.(10)]) #[.expr (.call 25 #[5%39,.ite (.cmp .lt (!6) (.blt .len #[!2])) (.call 4 #[.sub (!2) (!6)]) .(0),.(4)])],.expr (.call 25 #[5%39,0%32,.(4)]),.expr (.call 48 #[!5,!1,!3,.bin .add (!4) (1%26),.(0)]),.expr (.pD (5%39) 1 #[.(140)]),.asg (0%32) (.blt .len #[0%39]),.expr (.pD (0%39) 16 #[5%39]),.asg (0%18) (5%18),.aug (0%42) .add .(1),.asg (0%67) (.blt .max #[0%67,.bin .add (.bin .add (1%26) (1%11)) (!4)]),.asg (0%71) (.blt .max #[0%71,.bin .add (1%72) (!3)]),.asg (0%10) (.blt .max #[0%10,5%10])]⟩
noncomputable def Fe:Fn:=⟨4,[0],[],#[.asg (!1) (.blt .list #[0%39]),.expr (.pD (!1) 1 #[.(248)]),.expr (.call 25 #[!1,0%32,.(4)]),.expr (.call 28 #[!1]),.expr (.call 25 #[!1,0%67,.(4)]),.expr (.call 25 #[!1,0%71,.(4)]),.expr (.call 25 #[!1,0%10,.(2)]),.expr (.call 25 #[!1,0%42,.(2)]),.fr (!2) (.rev (.blt .sorted #[0%18])) #[.expr (.call 29 #[!1,.sub (0%18) (!2)])],.expr (.pD (!1) 1 #[.(249)]),.expr (.call 25 #[!1,.blt .len #[0%39],.(4)]),.expr (.pD (!1) 1 #[.(2)]),.fr (!3) (.blt .range #[.bin .add .(4) (.bin .mod (.neg (.blt .len #[!1])) .(4))]) #[.expr (.pD (!1) 1 #[.(223)])],.ret (.blt .bytes #[!1])]⟩
noncomputable def S6:Fn:=⟨1,[0],[],#[.ret (.call 2 #[!0,.neg .(1073741823),.(1073741823)])]⟩
noncomputable def Lc:Fn:=⟨2,[0],[],#[.fr (!1) (!0) #[.pT (.no (.call 53 #[!1])) #[.bad] .nil]]⟩
noncomputable def aj1:Fn:=⟨4,[0,1],[],#[.pT (.bor (.no (.blt .ri #[!0,.c (.typ "tuple")])) (.cmp .ne (.blt .len #[!0]) .(4))) #[.bad] .nil,.U0 (!0)]⟩
noncomputable def Ld:Fn:=⟨6,[0,1],[],#[.UZ (.tup #[!2,!3]) (!0) #[.pT (.bor (.no (.call 2 #[!2,.(0),.(255)])) (.bor (.no (.blt .ri #[!3,.c (.typ "tuple")])) (.cmp .ne (.blt .len #[!3]) .(6)))) #[.bad] .nil,.expr (.call 54 #[.Al (!3) (.c .none) .(4)]),.Ew [5,4] (.tup #[.sub (!3) .(4),.sub (!3) .(5)]),.pT (.no (.call 2 #[!4,.(0),.(3)])) #[.bad] .nil,.pT (.cmp .eq (!4) .(3)) #[.expr (.call 55 #[!5,!0])] #[.pT (.bor (.no (.call 2 #[!5,.(0),.(255)])) (.band (.cmp .eq (!4) .(1)) (.cmp .ge (!5) (!1)))) #[.bad] .nil]]]⟩
noncomputable def Le:Fn:=⟨4,[0],[],#[.fr (!1) (!0) #[.Ew [3,2] (.tup #[!1,.(0)]),.F8 (.band (.cmp .Ep (!2) (!0)) (.cmp .eq (.sub (.sub (!0) (!2)) .(4)) .(2))) #[.asg (!2) (.sub (.sub (!0) (!2)) .(5)),.asg (!3) (.bin .add (!3) .(1)),.pT (.cmp .gt (!3) (.blt .len #[!0])) #[.bad] .nil]]]⟩
noncomputable def S7:Fn:=⟨12,[0,1,2,3],[],#[.asg (!4) (.blt .len #[!0]),.U0 (!0)]⟩
noncomputable def S8:Fn:=⟨5,[0],[],#[.pT (.cmp .eq (.blt .len #[!0]) .(0)) #[.ret (.neg .(1))] .nil,.asg (.tup #[!1,!2,!3,!4]) (.sub (!0) (.neg .(1))),.ret (.ite (.cmp .eq (!1) .(255)) (.bin .add (.bin .mul .(256) (!3)) (!4)) (.neg .(1)))]⟩
noncomputable def S9:Fn:=⟨9,[0,1,2,3,4,5,6,7,8],[(.tup []),(.tup []),(.int 256)],#[.pT (.bor (.no (.call 2 #[!1,.(1),.(255)])) (.bor (.no (.blt .ri #[!2,.c (.typ "str")])) (.bor (.cmp .eq (!2) (.c (.str (bj "")))) (.no (.call 2 #[!3,.(1),.(134217727)]))))) #[.bad] .nil,.pT (.bor (.no (.call 2 #[!8,.(0),.(256)])) (.cmp .gt (.blt .len #[!4]) .(64))) #[.bad] .nil,.expr (.call 54 #[!4]),.expr (.call 54 #[!7]),.expr (.call 56 #[!5,.blt .len #[!6]]),.expr (.call 57 #[!5]),.expr (.call 58 #[!6,!7,!5,!8]),.asg (0%38) (!1),.asg (0%37) (!2),.asg (0%59) (!3),.asg (0%12) (!3),.asg (0%5) .(0),.asg (0%43) (.blt .list #[!4]),.asg (0%4) (.blt .dict #[!5]),.asg (0%46) (.blt .tuple #[!6]),.asg (0%30) (.blt .tuple #[!7]),.asg (0%3) (!8),.asg (0%15) (.call 59 #[!6]),.asg (0%28) .(45),.asg (0%60) (.neg .(1))]⟩
noncomputable def Ta:Fn:=⟨2,[0,1],[],#[.ret (.cmp .Ep (!1) (0%4))]⟩
noncomputable def Tc:Fn:=⟨2,[0,1],[],#[.ret (.sub (.pD (0%4) 19 #[!1,.c (.tup [(.int 0),(.int 0),(.int 0),(.int 0),(.int 0),(.int 0)])]) .(0))]⟩
noncomputable def aj2:Fn:=⟨2,[0,1],[],#[.ret (.sub (.pD (0%4) 19 #[!1,.c (.tup [(.int 0),(.int 0),(.int 0),(.int 0),(.int 0),(.int 0)])]) .(1))]⟩
noncomputable def aj3:Fn:=⟨2,[0,1],[],#[.ret (.sub (.pD (0%4) 19 #[!1,.c (.tup [(.int 0),(.int 0),(.int 0),(.int 0),(.int 0),(.int 0)])]) .(2))]⟩
noncomputable def aj4:Fn:=⟨2,[0,1],[],#[.ret (.sub (.pD (0%4) 19 #[!1,.c (.tup [(.int 0),(.int 0),(.int 0),(.int 0),(.int 0),(.int 0)])]) .(3))]⟩
noncomputable def aj5:Fn:=⟨2,[0,1],[],#[.expr (.call 0 #[.(0)])]⟩
noncomputable def aj6:Fn:=⟨3,[0,1],[],#[.asg (!2) (.pD (0%4) 19 #[!1,.c (.tup [(.int 0),(.int 0),(.int 0),(.int 0),(.int 0),(.int 0)])]),.ret (.ite (.band (.cmp .eq (.sub (!2) .(4)) .(2)) (.cmp .Ep (.sub (!2) .(5)) (0%4))) (.sub (!2) .(5)) (.neg .(1)))]⟩
noncomputable def aj7:Fn:=⟨3,[0,1],[],#[.asg (!2) (.pD (0%4) 19 #[!1,.c (.tup [(.int 0),(.int 0),(.int 0),(.int 0),(.int 0),(.int 0)])]),.ret (.ite (.cmp .eq (.sub (!2) .(4)) .(3)) (.sub (!2) .(5)) (.c .none))]⟩
noncomputable def aj8:Fn:=⟨2,[0,1],[],#[.expr (.call 0 #[.(1)])]⟩
noncomputable def aj9:Fn:=⟨3,[0,1,2],[],#[.expr (.call 0 #[.(2)])]⟩
noncomputable def Te:Fn:=⟨3,[0],[],#[.asg (!1) (.bin .sub (!0) .(1)),.asg (!2) (.sub (.c (.str (bj "abcdefghjklmnopqrstuvwxyz"))) (.bin .mod (!1) .(25))),.F8 (.cmp .ge (!1) .(25)) #[.asg (!1) (.bin .fdiv (!1) .(25)),.asg (!2) (.bin .add (.sub (.c (.str (bj "abcdefghjklmnopqrstuvwxyz"))) (.bin .mod (!1) .(25))) (!2))],.ret (.bin .add (.c (.str (bj "f"))) (!2))]⟩
noncomputable def Lf:Fn:=⟨8,[0,1,2,3,4,5],[(.tup [(.int 0),(.int 196608),(.int 98304),(.int 65536),(.int 262144),(.int 655360),(.int 65536)]),(.tup []),(.tup []),(.int 256)],#[.pT (.no (.call 2 #[!0,.(1),.(255)])) #[.bad] .nil,.asg (!6) (.uH [] .nil),.fr (!7) (!1) #[.pT (.bor (.no (.uc .le .le .(4) (.blt .len #[!7]) .(7))) (.cmp .Ep (.sub (!7) .(0)) (!6))) #[.bad] .nil,.asg (.sub (!6) (.sub (!7) .(0))) (.Al (.bin .add (.blt .tuple #[!7]) (.tup #[.(0),.(0),.(0)])) .(1) .(7))],.ret (.new 775 #[!0,.call 71 #[!0],.(655360),!2,!6,!3,!4,!5])]⟩
noncomputable def Tf:Fn:=⟨2,[0,1],[],#[.pT (.no (.blt .ri #[!1,.c (.typ "bytes")])) #[.bad] .nil,.asg (0%39) (!1),.asg (0%2) .(0)]⟩
noncomputable def Lg:Fn:=⟨5,[0,1],[],#[.asg (!2) (.bin .add (0%2) (!1)),.pT (.cmp .gt (!2) (.blt .len #[0%39])) #[.bad] .nil,.asg (!3) .(0),.fr (!4) (.blt .range #[0%2,!2]) #[.asg (!3) (.bin .add (.bin .mul .(256) (!3)) (.sub (0%39) (!4)))],.asg (0%2) (!2),.ret (!3)]⟩
noncomputable def Ti:Fn:=⟨4,[0,1],[],#[.asg (!2) (.pD (!0) 38 #[!1]),.asg (!3) (.bin .mul .(128) (.bin .pow .(256) (.bin .sub (!1) .(1)))),.pT (.cmp .ge (!2) (!3)) #[.ret (.bin .sub (!2) (.bin .mul .(2) (!3)))] .nil,.ret (!2)]⟩
noncomputable def Tj:Fn:=⟨4,[0,1],[],#[.asg (!2) (.bin .add (0%2) (!1)),.pT (.cmp .gt (!2) (.blt .len #[0%39])) #[.bad] .nil,.asg (!3) (.Al (0%39) (0%2) (!2)),.asg (0%2) (!2),.ret (!3)]⟩
noncomputable def Tn:Fn:=⟨1,[0],[],#[.asg (0%24) .(0),.asg (0%69) .(0),.asg (0%70) .(0),.asg (0%73) .(0),.asg (0%74) .(0),.asg (0%75) .(0),.asg (0%17) (.neg .(1)),.asg (0%63) (.lst .nil),.asg (0%10) .(0),.asg (0%51) (.lst .nil)]⟩
noncomputable def To:Fn:=⟨1,[0],[],#[.expr (.pD (0%63) 1 #[.tup #[0%24,0%69,0%70,0%73,0%74,0%75]]),.asg (0%10) (.blt .max #[0%10,.blt .len #[0%63]])]⟩
noncomputable def Tq:Fn:=⟨1,[0],[],#[.pT (.cmp .eq (.blt .len #[0%63]) .(0)) #[.bad] .nil,.asg (.tup #[0%24,0%69,0%70,0%73,0%74,0%75]) (.pD (0%63) 45 .nil)]⟩
noncomputable def Tt:Fn:=⟨5,[0,1,2],[],#[.Ew [4,3] (.tup #[.bin .add (0%24) (!1),.bin .add (0%69) (!2)]),.pT (.bor (.cmp .gt (.blt .abs #[!3]) .(2147483647)) (.cmp .gt (.blt .abs #[!4]) .(2147483647))) #[.bad] .nil,.asg (0%24) (!3),.asg (0%69) (!4)]⟩
noncomputable def Tu:Fn:=⟨3,[0,1,2],[],#[.asg (0%68) (!1),.asg (0%9) (!2),.asg (0%42) (.lst .nil),.asg (0%18) (.uH [] .nil),.asg (0%67) .(0),.asg (0%71) .(0),.asg (0%10) .(0)]⟩
noncomputable def Tv:Fn:=⟨2,[0],[],#[.asg (!1) (.tup #[.pD (!0) 58 #[.(4)],.pD (!0) 58 #[.(4)],.pD (!0) 58 #[.(4)]]),.pT (.cmp .le (.blt .min #[!1]) .(0)) #[.bad] .nil,.ret (!1)]⟩
noncomputable def Tw:Fn:=⟨11,[0,1,2],[],#[.asg (!3) (.pD (!0) 38 #[.bin .add (.bin .sub (!1) .(243)) .(1)]),.asg (!4) (.pD (!0) 38 #[.(4)]),.asg (!5) (.pD (!0) 38 #[.(4)]),.asg (!6) (.pD (!0) 38 #[.(4)]),.asg (!7) (.pD (!0) 38 #[.(1)]),.asg (!8) (.pD (!0) 38 #[.(1)]),.asg (!9) (.pD (!0) 66 #[.bin .add (!7) (!8)]),.asg (!10) (.pD (!2) 19 #[!3]),.pT (.bor (.cmp .Aq (!10) (.c .none)) (.bor (.cmp .ne (!5) (10%59)) (.no (.uc .lt .le .(0) (!6) .(134217727))))) #[.bad] .nil,.pT (.band (.cmp .ne (!4) (10%5)) (.band (.cmp .ne (!4) .(0)) (.cmp .ne (10%5) .(0)))) #[.bad] .nil,.pT (.cmp .ne (.blt .list #[.Al (!9) (!7) (.c .none)]) (.comp 2 [] (!1) (10%37) (.c (.bool true)) (.blt .ord #[!1]))) #[.bad] .nil,.ret (.tup #[!3,.tup #[!4,!5,!6,!7,!9]])]⟩
noncomputable def Lh:Fn:=⟨1,[0],[],#[.ret (.uc .le .lt .(243) (!0) (.bin .add .(243) .(4)))]⟩
noncomputable def Ff:Fn:=⟨4,[0,1,2,3],[],#[.pT (.cmp .lt (!1) .(4)) #[.ret (.tup #[.pD (!0) 58 #[.bin .add (!1) .(1)],!2,!3])] .nil,.pT (.cmp .lt (!1) .(9)) #[.pT (.cmp .gt (!1) .(4)) #[.asg (!2) (.pD (!0) 58 #[.bin .sub (!1) .(4)])] .nil,.ret (.tup #[!2,!2,!3])] .nil,.pT (.cmp .gt (!1) .(9)) #[.asg (!3) (.pD (!0) 58 #[.bin .sub (!1) .(9)])] .nil,.ret (.tup #[!3,!2,!3])]⟩
noncomputable def Tz:Fn:=⟨5,[0,1,2,3],[],#[.asg (!4) (.pD (!2) 19 #[0%17]),.pT (.bor (.cmp .Aq (!4) (.c .none)) (.bor (.cmp .gt (!1) .(255)) (.no (.pD (!4) 25 #[!1])))) #[.bad] .nil,.expr (.pD (0%51) 1 #[.tup #[.(0),0%24,0%69,0%17,!1]]),.pT (!3) #[.expr (.pD (!0) 21 #[.pD (!4) 72 #[!1],.(0)])] .nil]⟩
noncomputable def TA:Fn:=⟨5,[0,1,2],[],#[.asg (!3) (.pD (!0) 58 #[.(4)]),.asg (!4) (.pD (!0) 58 #[.(4)]),.pT (.band (.cmp .gt (!3) .(0)) (.cmp .gt (!4) .(0))) #[.expr (.pD (1%51) 1 #[.tup #[.(1),1%24,1%69,!3,!4]])] .nil,.pT (!2) #[.expr (.pD (!1) 21 #[!4,.(0)])] .nil]⟩
noncomputable def TB:Fn:=⟨3,[0,1,2],[],#[.pT (.cmp .wq (!1) (!2)) #[.bad] .nil,.asg (0%17) (!1)]⟩
noncomputable def TC:Fn:=⟨6,[0,1,2,3],[],#[.asg (.tup #[!4,!5]) (.call 83 #[!0,!1,!3]),.pT (.cmp .Ep (!4) (!2)) #[.bad] .nil,.asg (.sub (!2) (!4)) (!5)]⟩
noncomputable def uB:Fn:=⟨7,[0,1,2,3,4],[],#[.pT (.cmp .lt (!2) .(128)) #[.expr (.call 86 #[!1,!2,!4,.c (.bool true)])] #[.pT (.cmp .lt (!2) .(132)) #[.expr (.call 86 #[!1,.pD (!0) 38 #[.bin .add (.bin .sub (!2) .(128)) .(1)],!4,.c (.bool true)])] #[.pT (.cmp .eq (!2) .(132)) #[.expr (.call 87 #[!0,!1,.c (.bool true)])] #[.pT (.cmp .lt (!2) .(137)) #[.expr (.call 86 #[!1,.pD (!0) 38 #[.bin .add (.bin .sub (!2) .(133)) .(1)],!4,.c (.bool false)])] #[.pT (.cmp .eq (!2) .(137)) #[.expr (.call 87 #[!0,!1,.c (.bool false)])] #[.pT (.cmp .eq (!2) .(138)) #[.ret (.c .none)] #[.pT (.cmp .eq (!2) .(141)) #[.expr (.pD (!1) 48 .nil)] #[.pT (.cmp .eq (!2) .(142)) #[.expr (.pD (!1) 45 .nil)] #[.pT (.uc .le .lt .(143) (!2) .(157)) #[.asg (.tup #[!5,1%70,1%73]) (.call 85 #[!0,.bin .sub (!2) .(143),1%70,1%73]),.expr (.pD (!1) 21 #[!5,.(0)])] #[.pT (.uc .le .lt .(157) (!2) .(171)) #[.asg (.tup #[!5,1%74,1%75]) (.call 85 #[!0,.bin .sub (!2) .(157),1%74,1%75]),.expr (.pD (!1) 21 #[.(0),!5])] #[.pT (.uc .le .lt .(171) (!2) .(235)) #[.expr (.call 88 #[!1,.bin .sub (!2) .(171),!3])] #[.pT (.uc .le .lt .(235) (!2) .(239)) #[.expr (.call 88 #[!1,.pD (!0) 38 #[.bin .add (.bin .sub (!2) .(235)) .(1)],!3])] #[.pT (.uc .le .lt .(239) (!2) .(243)) #[.asg (!6) (.pD (!0) 38 #[.bin .add (.bin .sub (!2) .(239)) .(1)]),.expr (.pD (1%51) 1 #[.tup #[.(2),1%24,1%69,.pD (!0) 66 #[!6]]])] #[.pT (.call 84 #[!2]) #[.expr (.call 89 #[!0,!2,!3,!4])] #[.bad]]]]]]]]]]]]]]]⟩
noncomputable def Fg:Fn:=⟨7,[0,1,2,3],[],#[.asg (!4) (.blt .tuple #[.comp 3 [(2,0)] (!1) (.blt .range #[.(10)]) (.c (.bool true)) (.pD (!2) 58 #[.(4)])]),.pT (.cmp .ne (.pD (!0) 58 #[.(4)]) (!1)) #[.bad] .nil,.asg (!5) (.new 880 .nil),.asg (!6) (.pD (!0) 38 #[.(1)]),.F8 (.cmp .ne (!6) .(140)) #[.expr (.call 90 #[!0,!5,!6,!2,!3]),.asg (!6) (.pD (!0) 38 #[.(1)])],.pT (.cmp .gt (.blt .len #[5%63]) .(0)) #[.bad] .nil,.ret (.tup #[!4,!5])]⟩
noncomputable def Li:Fn:=⟨7,[0,1,2],[],#[.asg (!3) (.uH [] .nil),.asg (!4) (.pD (!0) 38 #[.(1)]),.F8 (.cmp .ne (!4) .(249)) #[.pT (.call 84 #[!4]) #[.asg (.tup #[!5,!6]) (.call 83 #[!0,!4,!2]),.pT (.bor (.cmp .Ep (!5) (!3)) (.cmp .ne (.pD (!1) 19 #[!5]) (!6))) #[.bad] .nil,.asg (.sub (!3) (!5)) (!6)] #[.pT (.cmp .ne (!4) .(138)) #[.bad] .nil],.asg (!4) (.pD (!0) 38 #[.(1)])],.pT (.cmp .ne (.blt .len #[!3]) (.blt .len #[!1])) #[.bad] .nil]⟩
noncomputable def TF:Fn:=⟨6,[0,1,2,3],[],#[.asg (!4) (.bin .sub (0%2) .(1)),.pT (.cmp .ne (.pD (!0) 58 #[.(4)]) (!2)) #[.bad] .nil,.pT (.cmp .ne (.call 82 #[!0]) (1%68)) #[.bad] .nil,.asg (1%67) (.pD (!0) 58 #[.(4)]),.asg (1%71) (.pD (!0) 58 #[.(4)]),.pT (.cmp .lt (.pD (!0) 38 #[.(2)]) (1%10)) #[.bad] .nil,.pT (.cmp .ne (.pD (!0) 38 #[.(2)]) (.bin .mod (.blt .len #[1%42]) .(65536))) #[.bad] .nil,.expr (.call 92 #[!0,1%18,!3]),.pT (.bor (.cmp .ne (.pD (!0) 38 #[.(4)]) (!4)) (.cmp .ne (.pD (!0) 38 #[.(1)]) .(2))) #[.bad] .nil,.asg (!5) (.pD (!0) 66 #[.bin .sub (.blt .len #[0%39]) (0%2)]),.pT (.bor (.cmp .lt (.blt .len #[!5]) .(4)) (.cmp .ne (.comp 2 [] (!1) (!5) (.cmp .ne (!1) .(223)) (!1)) (.lst .nil))) #[.bad] .nil]⟩
noncomputable def Lj:Fn:=⟨11,[0,1],[],#[.asg (!2) (.new 838 #[!0]),.pT (.bor (.cmp .ne (.pD (!2) 38 #[.(1)]) .(247)) (.cmp .ne (.pD (!2) 38 #[.(1)]) .(2))) #[.bad] .nil,.asg (!3) (.call 82 #[!2]),.asg (!4) (.pD (!2) 38 #[.(1)]),.asg (!5) (.new 901 #[!3,.pD (!2) 66 #[!4]]),.asg (!6) (.neg .(1)),.asg (!7) (.pD (!2) 38 #[.(1)]),.F8 (.cmp .ne (!7) .(248)) #[.asg (!8) (.bin .sub (2%2) .(1)),.pT (.cmp .eq (!7) .(139)) #[.asg (.tup #[!9,!10]) (.call 91 #[!2,!6,5%18,!1]),.expr (.pD (5%42) 1 #[.tup #[!9,.blt .tuple #[10%51]]]),.asg (5%10) (.blt .max #[5%10,10%10]),.asg (!6) (!8)] #[.pT (.call 84 #[!7]) #[.expr (.call 89 #[!2,!7,5%18,!1])] #[.pT (.cmp .ne (!7) .(138)) #[.bad] .nil]],.asg (!7) (.pD (!2) 38 #[.(1)])],.expr (.call 93 #[!2,!5,!6,!1]),.ret (!5)]⟩
noncomputable def TG:Fn:=⟨3,[0,1],[],#[.pT (.cmp .lt (!1) (.blt .len #[!0])) #[.asg (!2) (.blt .abs #[.blt .yi #[.sub (!0) (!1)]])] #[.asg (!2) (.bin .add (.bin .add (.bin .mul .(7919) (!1)) .(20011)) (.bin .mod (.blt .sum #[.comp 2 [] (!1) (!0) (.c (.bool true)) (.blt .abs #[.blt .yi #[!1]])]) .(99991)))],.ret (.lst #[!2,.(0),.bin .mod (!2) .(1000003)])]⟩
noncomputable def TH:Fn:=⟨4,[0,1],[],#[.pT (.cmp .ge (.sub (!0) .(0)) (.bin .pow .(10) .(18))) #[.asg (!2) (.bin .mod (.sub (!0) .(0)) (!1)),.asg (.sub (!0) .(0)) (.bin .fdiv (.sub (!0) .(0)) (!1)),.ret (!2)] .nil,.asg (.sub (!0) .(1)) (.bin .add (.sub (!0) .(1)) .(1)),.asg (!3) (.bin .mod (.bin .pow (.bin .add (.bin .add (.sub (!0) .(2)) (.bin .mul .(7103) (.sub (!0) .(1)))) .(20023)) .(5)) .(2147483647)),.ret (.bin .mod (.bin .fdiv (.bin .mod (.bin .mul (!3) (!3)) .(2147483563)) .(16)) (!1))]⟩
end
def Lk:List Fn:=[fn0,fn1,fn2,fn3,fn4,Ds,fn6,qE,fn8,fn9,SD,SE,SF,E6,ai3,ai4,ai5,ai6,ai7,SG,ai8,ai9,SH,SI,K8,SJ,SK,SM,SN,SO,SQ,SR,SU,E7,K9,SV,SW,La,E8,SX,SY,S0,S2,S3,S4,Lb,E9,aj0,Fb,S5,Fc,Fd,Fe,S6,Lc,aj1,Ld,Le,S7,S8,S9,Ta,Tc,aj2,aj3,aj4,aj5,aj6,aj7,aj8,aj9,Te,Lf,Tf,Lg,Ti,Tj,Tn,To,Tq,Tt,Tu,Tv,Tw,Lh,Ff,Tz,TA,TB,TC,uB,Fg,Li,TF,Lj,TG,TH]
noncomputable def GR:List (Nat×Nat)->Nat->Option Nat
 |[],_=>none
 |(a,x)::r,b=>if bQ a b then some x else GR r b
noncomputable def find3{α:Type}:List (Nat×Nat×α)->Nat->Nat->Option α
 |[],_,_=>none
 |(a,k,x)::r,b,j=>if bQ a b&&bQ k j then some x else find3 r b j
def Th:Tb:=⟨GR K7,find3 Qr,find3 attrL⟩
def Ov(E:QE)(H:MH):Prop:=False
def pB(L:List Fn)(i:Nat):Option Fn:=(Lk++L)[i]?
def Ll(o:B2)(x:V)(Q:QV):V->MH->Prop:=fun y H2=>tw H2 Q o x y
def Xh(Θ:Tb)(cl:pK)(o:B2)(b:X)(U:Loc)(Q:QV)(E:QE):V->MH->Prop:=fun x H1=>wE Θ cl b U H1 (Ll o x Q) E
def Xi(Q:QV):V->MH->Prop:=fun x H1=>∃i,x=.int i/\Q (.int (-i)) H1
def TJ(Q:QV)(H1:MH):Bool->Prop:=fun t=>Q (.bool (!t)) H1
def kNo(Q:QV):V->MH->Prop:=fun x H1=>rI (qm (TJ Q H1)) x
def Lm(Θ:Tb)(cl:pK)(b:X)(U:Loc)(Q:QV)(E:QE)(x:V)(H1:MH):Bool->Prop:=fun t=>qM t (wE Θ cl b U H1 Q E) (Q x H1)
def Xj(Θ:Tb)(cl:pK)(b:X)(U:Loc)(Q:QV)(E:QE):V->MH->Prop:=fun x H1=>rI (qm (Lm Θ cl b U Q E x H1)) x
def TK(Θ:Tb)(cl:pK)(b:X)(U:Loc)(Q:QV)(E:QE)(x:V)(H1:MH):Bool->Prop:=fun t=>qM t (Q x H1) (wE Θ cl b U H1 Q E)
def kOr(Θ:Tb)(cl:pK)(b:X)(U:Loc)(Q:QV)(E:QE):V->MH->Prop:=fun x H1=>rI (qm (TK Θ cl b U Q E x H1)) x
def Xk(Θ:Tb)(cl:pK)(a b:X)(U:Loc)(Q:QV)(E:QE):Bool->MH->Prop:=fun c H1=>qM c (wE Θ cl a U H1 Q E) (wE Θ cl b U H1 Q E)
def kBo(Q:QV)(H:MH):Bool->Prop:=fun t=>Q (.bool t) H
def Du(o:Cm)(x:V)(Q:QV):V->MH->Prop:=fun y H2=>qy H2 (qm (kBo Q H2)) o x y
def Xl(Θ:Tb)(cl:pK)(o:Cm)(b:X)(U:Loc)(Q:QV)(E:QE):V->MH->Prop:=fun x H1=>wE Θ cl b U H1 (Du o x Q) E
def TL(Θ:Tb)(cl:pK)(p:Cm)(c:X)(U:Loc)(Q:QV)(E:QE)(y:V)(H2:MH):Bool->Prop:=fun t=>qM t (wE Θ cl c U H2 (Du p y Q) E) (Q (.bool false) H2)
def TM(Θ:Tb)(cl:pK)(o p:Cm)(c:X)(U:Loc)(Q:QV)(E:QE)(x:V):V->MH->Prop:=fun y H2=>qy H2 (qm (TL Θ cl p c U Q E y H2)) o x y
def kCc(Θ:Tb)(cl:pK)(o p:Cm)(b c:X)(U:Loc)(Q:QV)(E:QE):V->MH->Prop:=fun x H1=>wE Θ cl b U H1 (TM Θ cl o p c U Q E x) E
def Qs(Θ:Tb)(cl:pK)(k:Nat)(Q:QV):V->MH->Prop:=fun x H1=>ur Θ k H1 Q x
def Ln(Θ:Tb)(cl:pK)(f:Nat)(Q:QV)(E:QE):List V->MH->Prop:=fun vs H1=>cl f vs H1 Q E
def Xm(Θ:Tb)(cl:pK)(C:Addr)(Q:QV)(E:QE):List V->MH->Prop:=fun vs H1=>Ey Θ cl C vs H1 Q E
def TN(Θ:Tb)(cl:pK)(m:MK)(k:Nat)(Q:QV)(E:QE):List V->MH->Prop:=fun vs H2=>yy cl m k vs H2 Q E
def TO(Θ:Tb)(cl:pK)(k:Nat)(as:Xs)(U:Loc)(H1:MH)(Q:QV)(E:QE):MK->Prop:=fun m=>wEs Θ cl as U H1 (TN Θ cl m k Q E) E
def kMe(Θ:Tb)(cl:pK)(k:Nat)(as:Xs)(U:Loc)(Q:QV)(E:QE):V->MH->Prop:=fun x H1=>xC Θ k H1 (TO Θ cl k as U H1 Q E) x
def TQ(b:Bi)(Q:QV):List V->MH->Prop:=fun vs H1=>qt H1 Q b vs
def Lo(x:V)(Q:QV):V->MH->Prop:=fun y H2=>vr H2 Q x y
def Xn(Θ:Tb)(cl:pK)(i:X)(U:Loc)(Q:QV)(E:QE):V->MH->Prop:=fun x H1=>wE Θ cl i U H1 (Lo x Q) E
def Lp(x y:V)(Q:QV):V->MH->Prop:=fun z H3=>Ar H3 Q y z x
def Lq(Θ:Tb)(cl:pK)(hi:X)(U:Loc)(x:V)(Q:QV)(E:QE):V->MH->Prop:=fun y H2=>wE Θ cl hi U H2 (Lp x y Q) E
def Xo(Θ:Tb)(cl:pK)(lo hi:X)(U:Loc)(Q:QV)(E:QE):V->MH->Prop:=fun x H1=>wE Θ cl lo U H1 (Lq Θ cl hi U x Q E) E
def Xp(Q:QV):V->MH->Prop:=fun x H1=>Hs H1 Q x
def Xq(Q:QV):List V->MH->Prop:=fun vs H1=>Q (.tup vs) H1
def Xr(Q:QV):List V->MH->Prop:=fun vs H1=>rj (.list vs) H1 Q
def Xu(ks:List Int)(Q:QV):List V->MH->Prop:=fun vs H1=>ks.length=vs.length/\∀ep,rj (.dict ((ks.zip vs).foldl (fun es e=>dput e.1 e.2 es) []) ep) H1 Q
def TR(v:V)(Q:List V->MH->Prop):List V->MH->Prop:=fun vs H2=>Q (v::vs) H2
def kEs(Θ:Tb)(cl:pK)(r:Xs)(U:Loc)(Q:List V->MH->Prop)(E:QE):V->MH->Prop:=fun v H1=>wEs Θ cl r U H1 (TR v Q) E
def tNo(Q:Bool->MH->Prop):Bool->MH->Prop:=fun b H1=>Q (!b) H1
def Xv(Θ:Tb)(cl:pK)(b:X)(U:Loc)(Q:Bool->MH->Prop)(E:QE):Bool->MH->Prop:=fun t H1=>qM t (wT Θ cl b U H1 Q E) (Q false H1)
def tOr(Θ:Tb)(cl:pK)(b:X)(U:Loc)(Q:Bool->MH->Prop)(E:QE):Bool->MH->Prop:=fun t H1=>qM t (Q true H1) (wT Θ cl b U H1 Q E)
def Xw(Θ:Tb)(cl:pK)(a b:X)(U:Loc)(Q:Bool->MH->Prop)(E:QE):Bool->MH->Prop:=fun c H1=>qM c (wT Θ cl a U H1 Q E) (wT Θ cl b U H1 Q E)
def tB(Q:Bool->MH->Prop)(H:MH):Bool->Prop:=fun t=>Q t H
def Dw(o:Cm)(x:V)(Q:Bool->MH->Prop):V->MH->Prop:=fun y H2=>qy H2 (qm (tB Q H2)) o x y
def Xx(Θ:Tb)(cl:pK)(o:Cm)(b:X)(U:Loc)(Q:Bool->MH->Prop)(E:QE):V->MH->Prop:=fun x H1=>wE Θ cl b U H1 (Dw o x Q) E
def TS(Θ:Tb)(cl:pK)(p:Cm)(c:X)(U:Loc)(Q:Bool->MH->Prop)(E:QE)(y:V)(H2:MH):Bool->Prop:=fun t=>qM t (wE Θ cl c U H2 (Dw p y Q) E) (Q false H2)
def TU(Θ:Tb)(cl:pK)(o p:Cm)(c:X)(U:Loc)(Q:Bool->MH->Prop)(E:QE)(x:V):V->MH->Prop:=fun y H2=>qy H2 (qm (TS Θ cl p c U Q E y H2)) o x y
def tCc(Θ:Tb)(cl:pK)(o p:Cm)(b c:X)(U:Loc)(Q:Bool->MH->Prop)(E:QE):V->MH->Prop:=fun x H1=>wE Θ cl b U H1 (TU Θ cl o p c U Q E x) E
def tR(Q:Bool->MH->Prop):V->MH->Prop:=fun v H2=>rI (qm (tB Q H2)) v
def aV(Q:Loc->MH->Prop)(H:MH):Loc->Prop:=fun U=>Q U H
def Qt(k:Nat)(x:V)(Q:MH->Prop):V->MH->Prop:=fun y H1=>yM k x H1 Q y
def Lr(x:V)(y:V)(Q:MH->Prop):V->MH->Prop:=fun z H2=>yv x H2 Q y z
def aSub(Θ:Tb)(cl:pK)(i:X)(x:V)(U:Loc)(Q:MH->Prop)(E:QE):V->MH->Prop:=fun y H1=>wE Θ cl i U H1 (Lr x y Q) E
def aS(Θ:Tb)(cl:pK)(ts:Ts)(xs:List V)(Q:Loc->MH->Prop)(E:QE):Loc->MH->Prop:=fun qp H'=>Hv Θ cl ts xs qp H' Q E
def Xy(y:V)(k:Loc->Prop):Loc->Prop:=fun r'=>k (y::r')
def sEx(R:MH->Prop):V->MH->Prop:=fun _v H1=>R H1
def Xz(U:Loc)(K:QF):V->MH->Prop:=fun v H1=>K (.ret v) U H1
def XA(Θ:Tb)(cl:pK)(t:T)(U:Loc)(K:QF)(E:QE):V->MH->Prop:=fun v H1=>wA Θ cl t v U H1 (K .next) E
def XB(is:List Nat)(U:Loc)(K:QF):V->MH->Prop:=fun v H1=>∃l,v=.tup l/\l.length=is.length/\K .next (qT is l.reverse U) H1
def TV(i:Nat)(U:Loc)(K:QF):V->MH->Prop:=fun z H2=>wY i z U (aV (K .next) H2)
def sAv(i:Nat)(o:B2)(U:Loc)(K:QF):V->MH->Prop:=fun y H1=>xD H1 (TV i U K) o (getL U i) y
def TX(k:Nat)(x:V)(U:Loc)(K:QF):V->MH->Prop:=fun z H4=>yM k z H4 (K .next U) x
def TY(k:Nat)(o:B2)(x u:V)(U:Loc)(K:QF):V->MH->Prop:=fun y H3=>xD H3 (TX k x U K) o u y
def TZ(Θ:Tb)(cl:pK)(k:Nat)(o:B2)(e:X)(x:V)(U:Loc)(K:QF)(E:QE):V->MH->Prop:=fun u H2=>wE Θ cl e U H2 (TY k o x u U K) E
def sAa(Θ:Tb)(cl:pK)(k:Nat)(o:B2)(e:X)(U:Loc)(K:QF)(E:QE):V->MH->Prop:=fun x H1=>ur Θ k H1 (TZ Θ cl k o e x U K E) x
def sIf(Θ:Tb)(cl:pK)(a b:Ss)(U:Loc)(K:QF)(E:QE):Bool->MH->Prop:=fun c H1=>VZ Θ cl c a b U H1 K E
def Ua(Θ:Tb)(cl:pK)(t:T)(b:Ss)(U:Loc)(H1:MH)(K:QF)(E:QE):List V->(MH->Prop)->Prop:=fun l ok=>rY (lp Θ cl t b E) ok l U H1 K
def sFr(Θ:Tb)(cl:pK)(t:T)(b:Ss)(U:Loc)(K:QF)(E:QE):V->MH->Prop:=fun x H1=>qr H1 (Ua Θ cl t b U H1 K E) x
section
theorem ak0:Ll o x Q y H2=(tw H2 Q o x y):=rfl
theorem aq6:Xh Θ cl o b U Q E x H1=(wE Θ cl b U H1 (Ll o x Q) E):=rfl
theorem aq7:Xi Q x H1=(∃i,x=.int i/\Q (.int (-i)) H1):=rfl
theorem aq8:TJ Q H1 t=(Q (.bool (!t)) H1):=rfl
theorem av9:kNo Q x H1=(rI (qm (TJ Q H1)) x):=rfl
theorem ak1:Lm Θ cl b U Q E x H1 t=(qM t (wE Θ cl b U H1 Q E) (Q x H1)):=rfl
theorem aq9:Xj Θ cl b U Q E x H1=(rI (qm (Lm Θ cl b U Q E x H1)) x):=rfl
theorem ar0:TK Θ cl b U Q E x H1 t=(qM t (Q x H1) (wE Θ cl b U H1 Q E)):=rfl
theorem aw0:kOr Θ cl b U Q E x H1=(rI (qm (TK Θ cl b U Q E x H1)) x):=rfl
theorem ar1:Xk Θ cl a b U Q E c H1=(qM c (wE Θ cl a U H1 Q E) (wE Θ cl b U H1 Q E)):=rfl
theorem aw1:kBo Q H t=(Q (.bool t) H):=rfl
theorem ak2:Du o x Q y H2=(qy H2 (qm (kBo Q H2)) o x y):=rfl
theorem ar2:Xl Θ cl o b U Q E x H1=(wE Θ cl b U H1 (Du o x Q) E):=rfl
theorem ar3:TL Θ cl p c U Q E y H2 t=(qM t (wE Θ cl c U H2 (Du p y Q) E) (Q (.bool false) H2)):=rfl
theorem ar4:TM Θ cl o p c U Q E x y H2=(qy H2 (qm (TL Θ cl p c U Q E y H2)) o x y):=rfl
theorem aw2:kCc Θ cl o p b c U Q E x H1=(wE Θ cl b U H1 (TM Θ cl o p c U Q E x) E):=rfl
theorem ak3:Qs Θ cl k Q x H1=(ur Θ k H1 Q x):=rfl
theorem ak4:Ln Θ cl f Q E vs H1=(cl f vs H1 Q E):=rfl
theorem ar5:Xm Θ cl C Q E vs H1=(Ey Θ cl C vs H1 Q E):=rfl
theorem ar6:TN Θ cl m k Q E vs H2=(yy cl m k vs H2 Q E):=rfl
theorem ar7:TO Θ cl k as U H1 Q E m=(wEs Θ cl as U H1 (TN Θ cl m k Q E) E):=rfl
theorem aw3:kMe Θ cl k as U Q E x H1=(xC Θ k H1 (TO Θ cl k as U H1 Q E) x):=rfl
theorem ar8:TQ b Q vs H1=(qt H1 Q b vs):=rfl
theorem ak5:Lo x Q y H2=(vr H2 Q x y):=rfl
theorem ar9:Xn Θ cl i U Q E x H1=(wE Θ cl i U H1 (Lo x Q) E):=rfl
theorem ak6:Lp x y Q z H3=(Ar H3 Q y z x):=rfl
theorem ak7:Lq Θ cl hi U x Q E y H2=(wE Θ cl hi U H2 (Lp x y Q) E):=rfl
theorem as0:Xo Θ cl lo hi U Q E x H1=(wE Θ cl lo U H1 (Lq Θ cl hi U x Q E) E):=rfl
theorem as1:Xp Q x H1=(Hs H1 Q x):=rfl
theorem as2:Xq Q vs H1=(Q (.tup vs) H1):=rfl
theorem as3:Xr Q vs H1=(rj (.list vs) H1 Q):=rfl
theorem as4:Xu ks Q vs H1=(ks.length=vs.length/\∀ep,rj (.dict ((ks.zip vs).foldl (fun es e=>dput e.1 e.2 es) []) ep) H1 Q):=rfl
theorem as5:TR v Q vs H2=(Q (v::vs) H2):=rfl
theorem aw4:kEs Θ cl r U Q E v H1=(wEs Θ cl r U H1 (TR v Q) E):=rfl
theorem aw5:tNo Q b H1=(Q (!b) H1):=rfl
theorem as6:Xv Θ cl b U Q E t H1=(qM t (wT Θ cl b U H1 Q E) (Q false H1)):=rfl
theorem aw6:tOr Θ cl b U Q E t H1=(qM t (Q true H1) (wT Θ cl b U H1 Q E)):=rfl
theorem as7:Xw Θ cl a b U Q E c H1=(qM c (wT Θ cl a U H1 Q E) (wT Θ cl b U H1 Q E)):=rfl
theorem tB_:tB Q H t=(Q t H):=rfl
theorem ak8:Dw o x Q y H2=(qy H2 (qm (tB Q H2)) o x y):=rfl
theorem as8:Xx Θ cl o b U Q E x H1=(wE Θ cl b U H1 (Dw o x Q) E):=rfl
theorem as9:TS Θ cl p c U Q E y H2 t=(qM t (wE Θ cl c U H2 (Dw p y Q) E) (Q false H2)):=rfl
theorem at1:TU Θ cl o p c U Q E x y H2=(qy H2 (qm (TS Θ cl p c U Q E y H2)) o x y):=rfl
theorem aw7:tCc Θ cl o p b c U Q E x H1=(wE Θ cl b U H1 (TU Θ cl o p c U Q E x) E):=rfl
theorem tR_:tR Q v H2=(rI (qm (tB Q H2)) v):=rfl
theorem aV_:aV Q H U=(Q U H):=rfl
theorem ak9:Qt k x Q y H1=(yM k x H1 Q y):=rfl
theorem al0:Lr x y Q z H2=(yv x H2 Q y z):=rfl
theorem at3:aSub Θ cl i x U Q E y H1=(wE Θ cl i U H1 (Lr x y Q) E):=rfl
theorem aS_:aS Θ cl ts xs Q E qp H'=(Hv Θ cl ts xs qp H' Q E):=rfl
theorem at5:Xy y k r'=(k (y::r')):=rfl
theorem aw8:sEx R v H1=(R H1):=rfl
theorem at7:Xz U K v H1=(K (.ret v) U H1):=rfl
theorem at8:XA Θ cl t U K E v H1=(wA Θ cl t v U H1 (K .next) E):=rfl
theorem at9:XB is U K v H1=(∃l,v=.tup l/\l.length=is.length/\K .next (qT is l.reverse U) H1):=rfl
theorem au0:TV i U K z H2=(wY i z U (aV (K .next) H2)):=rfl
theorem aw9:sAv i o U K y H1=(xD H1 (TV i U K) o (getL U i) y):=rfl
theorem au1:TX k x U K z H4=(yM k z H4 (K .next U) x):=rfl
theorem au2:TY k o x u U K y H3=(xD H3 (TX k x U K) o u y):=rfl
theorem au3:TZ Θ cl k o e x U K E u H2=(wE Θ cl e U H2 (TY k o x u U K) E):=rfl
theorem ax0:sAa Θ cl k o e U K E x H1=(ur Θ k H1 (TZ Θ cl k o e x U K E) x):=rfl
theorem ax1:sIf Θ cl a b U K E c H1=(VZ Θ cl c a b U H1 K E):=rfl
theorem au4:Ua Θ cl t b U H1 K E l ok=(rY (lp Θ cl t b E) ok l U H1 K):=rfl
theorem ax2:sFr Θ cl t b U K E x H1=(qr H1 (Ua Θ cl t b U H1 K E) x):=rfl
theorem al1:(wE Θ cl (.bin o a b:X) U H Q E)=(wE Θ cl a U H (Xh Θ cl o b U Q E) E):=rfl
theorem al3:(wE Θ cl (.neg a:X) U H Q E)=(wE Θ cl a U H (Xi Q) E):=rfl
theorem au5:(wE Θ cl (.no a:X) U H Q E)=(wE Θ cl a U H (kNo Q) E):=rfl
theorem Z9:(wE Θ cl (.band a b:X) U H Q E)=(wE Θ cl a U H (Xj Θ cl b U Q E) E):=rfl
theorem al4:(wE Θ cl (.bor a b:X) U H Q E)=(wE Θ cl a U H (kOr Θ cl b U Q E) E):=rfl
theorem Fh:(wE Θ cl (.ite t a b:X) U H Q E)=(wT Θ cl t U H (Xk Θ cl a b U Q E) E):=rfl
theorem al5:(wE Θ cl (.cmp o a b:X) U H Q E)=(wE Θ cl a U H (Xl Θ cl o b U Q E) E):=rfl
theorem aa0:(wE Θ cl (.uc o p a b c:X) U H Q E)=(wE Θ cl a U H (kCc Θ cl o p b c U Q E) E):=rfl
theorem aa1:(wE Θ cl (.attr a k:X) U H Q E)=(wE Θ cl a U H (Qs Θ cl k Q) E):=rfl
theorem aa2:(wE Θ cl (.call f as:X) U H Q E)=(wEs Θ cl as U H (Ln Θ cl f Q E) E):=rfl
theorem al6:(wE Θ cl (.new C as:X) U H Q E)=(wEs Θ cl as U H (Xm Θ cl C Q E) E):=rfl
theorem aa3:(wE Θ cl (.pD a k as:X) U H Q E)=(wE Θ cl a U H (kMe Θ cl k as U Q E) E):=rfl
theorem al7:(wE Θ cl (.blt b as:X) U H Q E)=(wEs Θ cl as U H (TQ b Q) E):=rfl
theorem al8:(wE Θ cl (.sub a i:X) U H Q E)=(wE Θ cl a U H (Xn Θ cl i U Q E) E):=rfl
theorem al9:(wE Θ cl (.Al a lo hi:X) U H Q E)=(wE Θ cl a U H (Xo Θ cl lo hi U Q E) E):=rfl
theorem am0:(wE Θ cl (.rev a:X) U H Q E)=(wE Θ cl a U H (Xp Q) E):=rfl
theorem am1:(wE Θ cl (.tup as:X) U H Q E)=(wEs Θ cl as U H (Xq Q) E):=rfl
theorem am2:(wE Θ cl (.lst as:X) U H Q E)=(wEs Θ cl as U H (Xr Q) E):=rfl
theorem am3:(wE Θ cl (.uH ks vs:X) U H Q E)=(wEs Θ cl vs U H (Xu ks Q) E):=rfl
theorem XC:(wEs Θ cl (.cons x r:Xs) U H QL E)=(wE Θ cl x U H (kEs Θ cl r U QL E) E):=rfl
theorem au6:(wT Θ cl (.no a:X) U H QB E)=(wT Θ cl a U H (tNo QB) E):=rfl
theorem aa4:(wT Θ cl (.band a b:X) U H QB E)=(wT Θ cl a U H (Xv Θ cl b U QB E) E):=rfl
theorem am4:(wT Θ cl (.bor a b:X) U H QB E)=(wT Θ cl a U H (tOr Θ cl b U QB E) E):=rfl
theorem am5:(wT Θ cl (.ite t a b:X) U H QB E)=(wT Θ cl t U H (Xw Θ cl a b U QB E) E):=rfl
theorem am6:(wT Θ cl (.cmp o a b:X) U H QB E)=(wE Θ cl a U H (Xx Θ cl o b U QB E) E):=rfl
theorem aa5:(wT Θ cl (.uc o p a b c:X) U H QB E)=(wE Θ cl a U H (tCc Θ cl o p b c U QB E) E):=rfl
theorem ax3:(wT Θ cl (.c v:X) U H QB E)=(rI (qm (tB QB H)) v):=rfl
theorem ax4:(wT Θ cl (.v i:X) U H QB E)=(Cy (getL U i) (rI (qm (tB QB H)) (getL U i))):=rfl
theorem aa6:(wT Θ cl (.call f as:X) U H QB E)=(wEs Θ cl as U H (Ln Θ cl f (tR QB) E) E):=rfl
theorem aa7:(wT Θ cl (.pD a k as:X) U H QB E)=(wE Θ cl a U H (kMe Θ cl k as U (tR QB) E) E):=rfl
theorem am7:(wT Θ cl (.blt b as:X) U H QB E)=(wEs Θ cl as U H (TQ b (tR QB)) E):=rfl
theorem ax5:(wA Θ cl (.v i:T) x U H QA E)=(wY i x U (aV QA H)):=rfl
theorem aa8:(wA Θ cl (.attr o k:T) x U H QA E)=(wE Θ cl o U H (Qt k x (QA U)) E):=rfl
theorem am8:(wA Θ cl (.sub o i:T) x U H QA E)=(wE Θ cl o U H (aSub Θ cl i x U (QA U) E) E):=rfl
theorem XD:(Hv Θ cl (.cons t ts:Ts) (x::xs) U H QA E)=(wA Θ cl t x U H (aS Θ cl ts xs QA E) E):=rfl
theorem aa9:(wS Θ cl (.expr e:S) U H K E)=(wE Θ cl e U H (sEx (K .next U)) E):=rfl
theorem am9:(wS Θ cl (.ret e:S) U H K E)=(wE Θ cl e U H (Xz U K) E):=rfl
theorem an0:(wS Θ cl (.asg t e:S) U H K E)=(wE Θ cl e U H (XA Θ cl t U K E) E):=rfl
theorem an1:(wS Θ cl (.Ew is e:S) U H K E)=(wE Θ cl e U H (XB is U K) E):=rfl
theorem XF:(wS Θ cl (.aug (.v i) o e:S) U H K E)=(Cy (getL U i) (wE Θ cl e U H (sAv i o U K) E)):=rfl
theorem Qu:(wS Θ cl (.aug (.attr a k) o e:S) U H K E)=(wE Θ cl a U H (sAa Θ cl k o e U K E) E):=rfl
theorem qP:(wS Θ cl (.pT t a b:S) U H K E)=(wT Θ cl t U H (sIf Θ cl a b U K E) E):=rfl
theorem au7:(wS Θ cl (.fr t src b:S) U H K E)=(wE Θ cl src U H (sFr Θ cl t b U K E) E):=rfl
theorem ab0:(wY (n+1) x (y::r) k0)=(wY n x r (Xy y k0)):=rfl
end
section
variable{α β:Type}{f:α->β}{a b c e:α}{l:List α}{n:Nat}
theorem ax6:(!true)=false:=rfl
theorem ax7:(!false)=true:=rfl
theorem au8:gP f (a::l)=f a::gP f l:=rfl
theorem au9:gP f []=[]:=rfl
theorem an2:jP 0 l=l:=rfl
theorem an3:jP (n+1) (a::l)=jP n l:=rfl
theorem an4:jP (n+1) ([]:List α)=[]:=rfl
theorem av0:jz [a]=[a]:=rfl
theorem av1:jz [a,b]=[b,a]:=rfl
theorem av2:jz [a,b,c]=[c,b,a]:=rfl
theorem av3:jz [a,b,c,e]=[e,c,b,a]:=rfl
end
theorem rN(H:MH)(a:Addr)(o:O):(H.upd a o) a=some o:=by simp[MH.upd]
theorem sL{H:MH}(h:b≠a):(H.upd a o) b=H b:=by simp[MH.upd,h]
theorem up_eq{H:MH}:(H.upd a o) a=some o:=rN H a o
theorem pj{H:MH}(n:b≠a)(h:H b=x):(H.upd a o) b=x:=(sL n).trans h
theorem pF(H:MH)(a:Addr)(o o':O):(H.upd a o).upd a o'=H.upd a o':=by funext b;simp only[MH.upd];split<;>rfl
theorem an5{H:MH}(e:o=.inst C f)(h:f.length<900)(q:Q (H.upd a (.inst C (put k v f)))):yM k v (H.upd a o) Q (.ref a):=.mk (up_eq.trans (congrArg some e)) h (by rw[pF];exact q)
theorem x6{H:MH}(h:H a=some o):H.upd a o=H:=by funext b;simp only[MH.upd];split<;>simp_all
theorem pA{H:MH}(h:(H.upd a o) b=none):b≠a/\H b=none:=by
 by_cases e:b=a
 ·subst e;rw[rN]at h;cases h
 ·rw[sL e]at h;exact⟨e,h⟩
theorem Ls{H:MH}(h:a≠b):(H.upd a o).upd b p=(H.upd b p).upd a o:=by
 funext c;simp only[MH.upd];by_cases e1:c=b
 ·subst e1;simp[Ne.symm h]
 ·simp[e1]
theorem px{H:MH}(h:H a=none)(h':H b=some o):b≠a:=fun e=>by rw[e,h]at h';cases h'
theorem brT(h:Q true):qm Q True:=⟨fun J=>h,fun z=>(z trivial).elim⟩
theorem Lu(h:Q false):qm Q False:=⟨False.elim,fun J=>h⟩
theorem vK(h:p->Q true)(h':¬p->Q false):qm Q p:=⟨h,h'⟩
theorem An(c:p)(h:Q true):qm Q p:=⟨fun J=>h,fun z=>(z c).elim⟩
theorem tD(c:¬p)(h:Q false):qm Q p:=⟨fun z=>(c z).elim,fun J=>h⟩
theorem sU(h:i<n):idx n (i:Int)=some i:=by unfold idx;rw[if_pos Z.cn,if_pos (bR.mpr h)];simp
theorem Lv:idx (n+1) (-1)=some n:=by unfold idx;rw[if_neg (by exact Z.o 0x11101135033 [] [] rfl),if_pos (by exact Z.o 0x111011381611351030 [] [_] rfl)];exact congrArg some (by rw[d9,<-Int.sub_eq_add_neg,Int.pred_toNat];rfl)
theorem Io(l:List α)(i:Nat):rR l (some (i:Int)) none=l.drop i:=by
 have:uu l.length (i:Int)=i:=by unfold uu;rw[if_neg Z.ZH];simp
 simp only[rR,this];rw[d6 (by simp)]
theorem Lx(l:List α)(i j:Nat):rR l (some (i:Int)) (some (j:Int))=(l.drop i).take (j - i):=by
 have e:∀k:Nat,uu l.length (k:Int)=k:=fun k=>by unfold uu;rw[if_neg Z.ZH];simp
 simp only[rR,e]
theorem pQ(h1:ok H)(h:∀R:Loc->MH->Prop,(∀U H,rY body ok r U H K->R U H)->body x U H (fK R K)):rY body ok (x::r) U H K:=⟨h1,h (fun U H=>rY body ok r U H K) fun J J z=>z⟩
theorem qV(h:∀R:Loc->MH->Prop,(∀U H,yx test body n U H K->R U H)->test U H fun b H'=>qM b (body U H' (fK R K)) (K .next U H')):yx test body (n+1) U H K:=h (fun U H=>yx test body n U H K) fun J J z=>z
theorem qB(h:b<=d)(e:fk a b=true):a<=d:=ae (av e) h
theorem pV(h:b<=d)(e:fk (a+1) b=true):a<=d - 1:=dM (ae (av e) h)
theorem bud(hl:h+a+k<=l)(g:b<=a+m)(e:fk (m+j) k=true):h+b+j<=l:=by refine ae (bB (aZ g h) j) ?_;rw[<-aQ,aQ _ m j];exact ae (aZ (av e) _) hl
theorem AH(hl:x+k<=l)(e:fk j k=true):x+j<=l:=ae (aZ (av e) x) hl
def XG(L:List Fn)(d:Nat)(fn:Fn)(as:List V)(H:MH)(Q:QV)(E:QE):Prop:=wSs Th (pz Th (pB L) (d - 1)) fn.body (qT fn.ps (as++fn.dv.drop (as.length+fn.dv.length - fn.ps.length)) (aK fn.n .rG)) H (rK Q) E
theorem ab1:XG L d fn as H Q E=wSs Th (pz Th (pB L) (d - 1)) fn.body (qT fn.ps (as++fn.dv.drop (as.length+fn.dv.length - fn.ps.length)) (aK fn.n .rG)) H (rK Q) E:=rfl
section
variable{L:List Fn}
theorem call_of(hd:1<=d)(hf:pB L f=some fn)(hl:(fk as.length fn.ps.length&&fk fn.ps.length (as.length+fn.dv.length))=true)
  (h:XG L d fn as H Q E):pz Th (pB L) d f as H Q E:=by obtain⟨d,rfl⟩:∃e,d=e+1:=⟨d - 1,((d8 hd).symm)⟩;rw[aR]at hl;exact⟨fn,hf,av hl.1,av hl.2,h⟩
end
local macro_rules | `(tactic| trivial) => `(tactic| first | assumption | exact up_eq | (refine pj (by first | assumption | (refine Ne.symm ?_; assumption)) ?_; trivial))
local macro_rules | `(tactic| simp_arith [$xs,*]) => do
 let mut a : Array (Lean.TSyntax [`Lean.Parser.Tactic.simpErase, `Lean.Parser.Tactic.simpLemma]) := #[]
 for n in "ad3 ad4 ad5 Bv Gj Nk Rh ZJ ad7 Np Nq Ri Ez Rm ad8 ad9 V2 ZK ab1 Nt JP ZL ZM ae0 ae1 ZN ZO ae2 ae3 ZP ae4 ae5 ae6 U1 JQ V3 V5 V6 ZQ ZR U2 ZS ZT ZU ZV ae7 ae9 af0 af1 af2 V7 V8 sY aq4 aq5 Nat.reduceAdd Nat.reduceSub Nat.reduceMul Int.reduceNeg Int.reduceAdd Int.reduceSub Int.reduceMul Int.reducePow Int.reduceToNat ax6 ax7 av0 av1 av2 av3 List.reverse_nil List.nil_append List.cons_append List.length_cons List.length_nil au8 au9 List.replicate_succ List.replicate_zero an2 an3 an4 ak0 aq6 aq7 aq8 av9 ak1 aq9 ar0 aw0 ar1 aw1 ak2 ar2 ar3 ar4 aw2 ak3 ak4 ar5 ar6 ar7 aw3 ar8 ak5 ar9 ak6 ak7 as0 as1 as2 as3 as4 as5 aw4 aw5 as6 aw6 as7 tB_ ak8 as8 as9 at1 aw7 tR_ aV_ ak9 al0 at3 aS_ at5 aw8 at7 at8 at9 au0 aw9 au1 au2 au3 ax0 ax1 au4 ax2 al1 al3 au5 Z9 al4 Fh al5 aa0 aa1 aa2 al6 aa3 al7 al8 al9 am0 am1 am2 am3 XC au6 aa4 am4 am5 am6 aa5 ax3 ax4 aa6 aa7 am7 ax5 aa8 am8 XD aa9 am9 an0 an1 XF Qu qP au7 ab0".splitOn " " do
  let s ← `(Lean.Parser.Tactic.simpLemma| $(Lean.mkIdent n.toName):ident)
  a := a.push ⟨s.raw⟩
 a := a ++ xs.getElems.map fun x => ⟨x.raw⟩
 `(tactic| dsimp only [$a,*])
local macro_rules | `(tactic| simp_arith! [$xs,*]) => do
 let mut t ← `(tactic| simp_arith [$xs,*])
 let mut i := ""
 for n in "ur.own tr ur.cls trr an5 rl yM.mk tl xC.user trr xC.lst td xC.uH tr vr.tup drr An d tD d".splitOn " " do
  if i == "" then i := n else
   let mut s ← `(tactic| with_reducible apply $(Lean.mkIdent i.toName))
   for c in n.toList do
    let x ← if c == 't' then `(tactic| trivial) else if c == 'r' then `(tactic| rfl) else if c == 'd' then `(tactic| decide) else `(tactic| exact Nat.le_of_ble_eq_true rfl)
    s ← `(tactic| ($s:tactic; $x:tactic))
   t ← `(tactic| first | $t:tactic | $s:tactic)
   i := ""
 t ← `(tactic| first | $t:tactic | refine ⟨_, Gb.tup, rfl, ?_⟩ | refine ⟨_, rfl, ?_⟩ | refine ⟨rfl, ?_⟩)
 for n in "qy.eqI qy.neI qy.lt qy.le qy.gt qy.ge qy.ac2 qy.ac3 qy.ac4 qy.ac5 qy.VM qy.VN qy.VO qy.VP brT Lu rI.bool rI.none rI.int tw.add tw.sub xD.add qt.ac8 qt.ac9 qt.isS qt.isT qt.isB qt.abs qt.max2 qt.ac7".splitOn " " do
  t ← `(tactic| first | $t:tactic | with_reducible refine $(Lean.mkIdent n.toName) ?_)
 `(tactic| repeat $t:tactic)
noncomputable def be:Nat->Int->List Int
 |0,_=>[]
 |r+1,n=>(n.fdiv (256^r)).fmod 256::be r n
noncomputable abbrev iL(l:List Int):List V:=l.map .int
theorem pM:∀(r:Nat) (n:Int),(be r n).length=r:=by
 intro r;induction r with
 |zero=>exact fun J=>rfl
 |succ r pS=>exact fun n=>congrArg (· +1) (pS n)
theorem A3(r:Nat):sW (((r+1:Nat):Int) - 1) (-1) (-1)=.int r::sW ((r:Int) - 1) (-1) (-1):=by
 unfold sW;rw[(show(if(-1:Int)=1 then(-1) - (((r+1:Nat):Int) - 1)else(((r+1:Nat):Int) - 1) - (-1)).toNat=r+1 by rw[if_neg ⋯,jS,fc];rfl),(show(if(-1:Int)=1 then(-1) - ((r:Int) - 1)else((r:Int) - 1) - (-1)).toNat=r by rw[if_neg ⋯,jS,fc];rfl),j3,bL,dP];congr 1
 ·congr 1;simp
 ·apply iy;intro i _;exact congrArg V.int (by show((r:Int)+1) - 1+((i:Int)+1)* -1=_;rw[dc,jT,gF,<-dW,ff];rfl)
theorem A4:sW (((0:Nat):Int) - 1) (-1) (-1)=[]:=by decide
theorem Ly(h:r<4):¬(256:Int)^r=0/\((256:Int)^r).natAbs<1073741824:=by
 have:r=0\/r=1\/r=2\/r=3:=Z.bn (p:=fun r=>r=0\/r=1\/r=2\/r=3) h rfl;repeat first|clear r|clear h|clear p
 rcases this with rfl|rfl|rfl|rfl<;>decide
section
variable{L:List Fn}
theorem qh(hd:1<=d)(k1:a<=n/\n<=b->Q (.bool true) H)(k2:¬(a<=n/\n<=b)->Q (.bool false) H):pz Th (pB L) d 2 [.int n,.int a,.int b] H Q E:=by
 refine call_of (fn:=fn2) hd rfl rfl ?_;simp![fn2];refine vK (fun x=>?_) fun x=>?_
 ·lia;exact vK (fun y=>k1 ⟨x,y⟩) fun y=>k2 fun z=>y z.2
 ·lia;exact k2 fun z=>x z.1
theorem vL(hd:1<=d)(k:Q (.int n) H):pz Th (pB L) d 3 [.int n] H Q E:=by refine call_of (fn:=fn3) hd rfl rfl ?_;simp![fn3];exact k
theorem Lz(x: -b<=n)(y:n<=b):(n.natAbs:Int)<=b:=Z.we (Z.o 0x11112985019850 [_,_] [] rfl x) (Z.o 0x111129801980 [_,_] [] rfl y)
theorem yH(x:¬-b<=n\/¬n<=b):¬(n.natAbs:Int)<=b:=fun z=>x.elim (fun k=>k (aT (mK z) Z.ng)) fun k=>k (aT bF z)
theorem tE(hd:2<=d)(k1:(n.natAbs:Int)<=2147483647->Q (.int n) H)(k2:¬(n.natAbs:Int)<=2147483647->Ov E H):pz Th (pB L) d 4 [.int n] H Q E:=by
 refine call_of (fn:=fn4) (qB hd rfl) rfl rfl ?_;simp![fn4];refine vL (pV hd rfl) ?_;lia;refine vK (fun x=>?_) fun x=>?_
 ·lia;refine vK (fun y=>?_) fun y=>?_
  ·lia;exact k1 (Lz x y)
  ·lia;exact k2 (yH (.inr y))
 ·lia;exact k2 (yH (.inl x))
theorem qC(hd:2<=d)(k1:(n.natAbs:Int)<=1073741823->Q (.int n) H)(k2:¬(n.natAbs:Int)<=1073741823->Ov E H):pz Th (pB L) d 5 [.int n] H Q E:=by
 refine call_of (fn:=Ds) (qB hd rfl) rfl rfl ?_;simp![Ds];refine vL (pV hd rfl) ?_;lia;refine vK (fun x=>?_) fun x=>?_
 ·lia;refine vK (fun y=>?_) fun y=>?_
  ·lia;exact k1 (Lz x y)
  ·lia;exact k2 (yH (.inr y))
 ·lia;exact k2 (yH (.inl x))
theorem sr(hd:1<=d)(k1:(n.natAbs:Int)<=1073741823->Q (.int n) H)(k2:¬(n.natAbs:Int)<=1073741823->Ov E H):pz Th (pB L) d 30 [.int n] H Q E:=by
 refine call_of (fn:=SQ) hd rfl rfl ?_;simp![SQ];refine vK (fun x=>?_) fun x=>?_
 ·lia;exact k2 (d4.mpr x)
 ·lia;exact k1 (bJ.mp x)
theorem Fi(hd:1<=d)(k:Q (.int 0) H):pz Th (pB L) d 6 [.int 0,.int 1] H Q E:=by refine call_of (fn:=fn6) hd rfl rfl ?_;simp![fn6];refine tw.mul ⋯ ⋯ ?_;lia;refine tw.mul ⋯ ⋯ ?_;exact tw.fdiv ⋯ ⋯ k
theorem AI(hd:2<=d)(hn:0<=n/\n<=255)(k:Q (.int n) H):pz Th (pB L) d 7 [.int n] H Q E:=by refine call_of (fn:=qE) (qB hd rfl) rfl rfl ?_;simp![qE];refine qh (pV hd rfl) (fun J=>?_) fun z=>absurd hn z;lia;exact k
theorem yA:∀(r:Nat) (l:List V) (H:MH) (q:V),r<=4->l.length+r<=pq->H o=some (.list l)->
  (∀q,K .next [.ref o,.int n,room,q] (H.upd o (.list (l++iL (be r n)))))->
  rY (lp Th (pz Th (pB L) d) (.v 3) (.cons (.expr (.pD (.v 0) 1 (.cons (.bin .mod (.bin .fdiv (.v 1) (.bin .pow (.c (.int 256)) (.v 3))) (.c (.int 256))) .nil))) .nil) E) (fun J=>True)
   (sW (r - 1) (-1) (-1)) [.ref o,.int n,room,q] H K:=by
 intro r;induction r with
 |zero=>exact fun l H q J J h k=>by refine A4.symm▸?_;have:=k q;rw[show l++iL (be 0 n)=l from aO l,x6 h]at this;exact⟨trivial,this⟩
 |succ r pS=>exact fun l H q hr hl h k=>by rw[A3];refine pQ trivial fun R hR=>?_;simp![lp];refine tw.pow (bU r) (Z.o 0x1111241311381510424f53860 [] [_] rfl hr) ⋯ ?_;refine tw.fdiv (Ly hr).1 (Ly hr).2 (tw.mod ⋯ ?_);refine⟨_,h,qS.app (Z.off _ hl) (hR _ _ (pS _ _ _ (bC hr) (by rw[aa];simp only[a8,bZ];exact Z.rc hl) (rN ..) fun q=>?_))⟩;rw[pF,ax];exact k q
theorem qf{H:MH}{Q:QV}(hd:1<=d)(hr:r<=4)(hl:l.length+4<=pq)(h:H o=some (.list l))(k:Q .none (H.upd o (.list (l++iL (be r n))))):
  pz Th (pB L) d 25 [.ref o,.int n,.int r] H Q E:=by refine call_of (fn:=SJ) hd rfl rfl ?_;simp![SJ];refine qt.Q9 (Z.wl (Z.o 0x1110113862000000000000000100000000f3651 [] [_] rfl) (Z.o 0x11112413851000000000000000100000000f361138621 [] [_] rfl hr)) ⋯ (.inr rfl) (qr.Ak (.inr rfl) (Z.wl (Z.o 0x1110113862000000000000000100000000f3651 [] [_] rfl) (Z.o 0x11112413851000000000000000100000000f361138621 [] [_] rfl hr)) ⋯ (yA r l H _ hr (Z.ac hl hr) h fun q=>?_));exact k
noncomputable def qo(n:Int):Nat:=if n.natAbs<128 then 1 else if n.natAbs<32768 then 2 else if n.natAbs<8388608 then 3 else 4
noncomputable def vM(n:Int):Nat:=if n<256 then 1 else if n<65536 then 2 else if n<16777216 then 3 else 4
theorem grow
  (ht:∀(r:Nat) (R:Bool->MH->Prop),1<=r->r<=4->(r<room->R true H)->(¬r<room->R false H)->test [x,y,z,.int r] H R)(hb:∀(r:Nat) (K:QF),K .next [x,y,z,.int (r+1:Nat)] H->body [x,y,z,.int r] H K)(hr:1<=room/\room<=4)(k:K .next [x,y,z,.int room] H):
  ∀(m r:Nat),room - r<m->1<=r->r<=room->yx test body m [x,y,z,.int r] H K:=by
 intro x_;induction x_ with
 |zero=>intro r h _ _;exact absurd h (hM _)
 |succ m ih=>
  intro r h h1 h2;refine qV fun R hR=>ht r _ h1 (ae h2 hr.2) (fun c=>?_) fun c=>?_
  ·exact hb r _ (hR _ _ (ih (r+1) (f9 (Z.sb c) (Nat.le_of_lt_succ h)) (cH _) c))
  ·obtain rfl:r=room:=fT h2 (b8.mp c);exact k
theorem tX(n:Int):1<=qo n/\qo n<=4:=by unfold qo;(repeat' split)<;>decide
theorem xk(n:Int):1<=vM n/\vM n<=4:=by unfold vM;(repeat' split)<;>decide
theorem four(h1:1<=r)(h:r<=4):r=1\/r=2\/r=3\/r=4:=Z.bn (p:=fun r=>1<=r->r=1\/r=2\/r=3\/r=4) (fj h) rfl h1
theorem zy(h1:1<=r)(h:r<=4):r<qo n↔(r:Int)<4/\128*256^((r:Int) - 1).toNat<=(n.natAbs:Int):=by unfold qo;rcases four h1 h with rfl|rfl|rfl|rfl<;>(repeat' split)<;>simp<;>(first|exact Z.cit ‹_› rfl|exact Z.cgl ‹_› rfl|exact bR.mpr ‹_›)
theorem zA(h1:1<=r)(h:r<=4):r<vM n↔(r:Int)<4/\256^((r:Int)).toNat<=n:=by unfold vM;rcases four h1 h with rfl|rfl|rfl|rfl<;>(repeat' split)<;>simp<;>(first|exact‹_›|exact bJ.mp ‹_›|exact Z.ilt ‹_› rfl)
theorem AJ{Q:QV}{E:QE}(hd:2<=d)(hl:l.length+5<=pq)(h:H o=some (.list l))(k:Q .none (H.upd o (.list (l++iL ((first+qo n - 1)::be (qo n) n))))):
  pz Th (pB L) d 26 [.ref o,.int first,.int n] H Q E:=by
 refine call_of (fn:=SK) (qB hd rfl) rfl rfl ?_;simp![SK];refine⟨4,grow (room:=qo n) (fun r R h1 h4 k1 k2=>?_) (fun r K k=>?_) (tX n) ?_ 4 1 (fj (fJ (tX n).2)) ⋯ (tX n).1⟩
 ·simp![sX];refine vK (fun c=>?_) fun c=>?_
  ·lia;refine tw.pow (Z.o 0x11112811351113862030 [] [_] rfl h1) (Z.o 0x111124138510424f531138620 [] [_] rfl h4) ⋯ (tw.mul ⋯ (by rcases four h1 h4 with rfl|rfl|rfl|rfl<;>decide) ?_);lia;exact vK (fun z=>k1 ((zy (n:=n) h1 h4).mpr ⟨c,z⟩)) fun z=>k2 (mt (zy (n:=n) h1 h4).mp fun q=>z q.2)
  ·lia;exact k2 (mt (zy (n:=n) h1 h4).mp fun q=>c q.1)
 ·simp![vB];exact k
 ·lia;refine⟨_,h,qS.app (Z.off 5 hl) ?_⟩;lia;refine qf (pV hd rfl) (tX n).2 (by refine aa▸?_;simp only[a8,bZ];exact hl) (rN ..) ?_;rw[pF,ax];exact k
theorem vN{Q:QV}{E:QE}(hd:2<=d)(hl:l.length+5<=pq)(h:H o=some (.list l))(k:Q .none (H.upd o (.list (l++iL ((first+vM n - 1)::be (vM n) n))))):
  pz Th (pB L) d 27 [.ref o,.int first,.int n] H Q E:=by
 refine call_of (fn:=SM) (qB hd rfl) rfl rfl ?_;simp![SM];refine⟨4,grow (room:=vM n) (fun r R h1 h4 k1 k2=>?_) (fun r K k=>?_) (xk n) ?_ 4 1 (fj (fJ (xk n).2)) ⋯ (xk n).1⟩
 ·simp![sX];refine vK (fun c=>?_) fun c=>?_
  ·lia;refine tw.pow Z.cn (Z.cil h4 rfl) ⋯ ?_;lia;exact vK (fun z=>k1 ((zA (n:=n) h1 h4).mpr ⟨c,z⟩)) fun z=>k2 (mt (zA (n:=n) h1 h4).mp fun q=>z q.2)
  ·lia;exact k2 (mt (zA (n:=n) h1 h4).mp fun q=>c q.1)
 ·simp![vB];exact k
 ·lia;refine⟨_,h,qS.app (Z.off 5 hl) ?_⟩;lia;refine qf (pV hd rfl) (xk n).2 (by rw[aa];simp only[a8,bZ];exact hl) (rN ..) ?_;rw[pF,ax];exact k
def units:List Int:=be 4 25400000++be 4 473628672++be 4 1000
theorem xl{E:QE}(hd:2<=d)(hl:l.length+12<=pq)(h:H o=some (.list l))(k:Q .none (H.upd o (.list (l++iL units)))):
  pz Th (pB L) d 28 [.ref o] H Q E:=by refine call_of (fn:=SN) (qB hd rfl) rfl rfl ?_;simp![SN];refine qf (r:=4) (pV hd rfl) (aF _) (Z.ofm _ hl) h ?_;lia;refine qf (r:=4) (pV hd rfl) (aF _) (by rw[aa,ah,pM];exact Z.off 4 hl) (rN ..) ?_;lia;refine qf (r:=4) (pV hd rfl) (aF _) (by rw[aa,aa,ah,ah,pM,pM];exact hl) (rN ..) ?_;lia;rw[pF,pF];unfold units at k;rwa[iL,aG,aG,<-ax,<-ax]at k
end
section
variable{L:List Fn}
noncomputable def Qv(f:Addr)(c:Int):O:=.inst 197 [(17,.ref f),(8,.int c)]
theorem Ip{H:MH}(hd:3<=d)(hn:0<=c/\c<=255)(k:Q .none (H.upd a (Qv f c))):pz Th (pB L) d 8 [.ref a,.ref f,.int c] (H.upd a (.inst 197 [])) Q E:=by refine call_of (fn:=fn8) (qB hd rfl) rfl rfl ?_;simp![fn8];refine AI (pV hd rfl) hn ?_;lia;exact k
noncomputable def va(kd w h dp:Int)(l:Addr)(sh:Int):O:=.inst 218 [(31,.int kd),(72,.int w),(26,.int h),(11,.int dp),(29,.ref l),(53,.int sh),(57,.int 0),(41,.int 0),(49,.tup [.int 0,.int 1])]
theorem LA{H:MH}(hd:3<=d)(hn:kd=2\/kd=3)(hw:(w.natAbs:Int)<=1073741823)(hh:(h.natAbs:Int)<=1073741823)(hp:(dp.natAbs:Int)<=1073741823)(k:Q .none (H.upd a (va kd w h dp l 0))):
  pz Th (pB L) d 9 [.ref a,.int kd,.int w,.int h,.int dp,.ref l] (H.upd a (.inst 218 [])) Q E:=by refine call_of (fn:=fn9) (qB hd rfl) rfl rfl ?_;simp![fn9];refine qh (pV hd rfl) (fun J=>?_) fun z=>absurd (⟨Z.o 0x1111282130182130 [_] [] rfl (Z.hl hn rfl),Z.o 0x1111231380131380 [_] [] rfl (Z.hh hn rfl)⟩) z;lia;refine qC ((Z.dm hd)) (fun J=>?_) fun z=>absurd hw z;lia;refine qC ((Z.dm hd)) (fun J=>?_) fun z=>absurd hh z;lia;refine qC ((Z.dm hd)) (fun J=>?_) fun z=>absurd hp z;lia;exact k
noncomputable def Dx(w h dp:Int):O:=.inst 239 [(72,.int w),(26,.int h),(11,.int dp)]
theorem Iq{H:MH}(hd:3<=d)(hw:(w.natAbs:Int)<=1073741823)(hh:(h.natAbs:Int)<=1073741823)(hp:(dp.natAbs:Int)<=1073741823)(k:Q .none (H.upd a (Dx w h dp))):
  pz Th (pB L) d 10 [.ref a,.int w,.int h,.int dp] (H.upd a (.inst 239 [])) Q E:=by
 refine call_of (fn:=SD) (qB hd rfl) rfl rfl ?_;simp![SD];have turn:∀(x:Int) (q:V) (R K:Loc->MH->Prop) (KK:QF) (E:QE),(x.natAbs:Int)<=1073741823->R [.ref a,.int w,.int h,.int dp,.int x] (H.upd a (.inst 239 []))->lp Th (pz Th (pB L) (d - 1)) (.v 4) (.cons (.pT (.cmp .uh (.v 4) (.c .none)) (.cons (.expr (.call 5 (.cons (.v 4) .nil))) .nil) .nil) .nil) E (.int x) [.ref a,.int w,.int h,.int dp,q] (H.upd a (.inst 239 [])) (fK R KK):=fun x q R K KK E hx k=>by simp![lp];refine qC ((Z.dm hd)) (fun J=>?_) fun z=>absurd hx z;exact k
 refine qr.tup (av rfl) (pQ trivial fun R hR=>turn w _ R R _ _ hw (hR _ _ (pQ trivial fun R hR=>turn h _ R R _ _ hh (hR _ _ (pQ trivial fun R hR=>turn dp _ R R _ _ hp (hR _ _ ⟨trivial,?_⟩))))));lia;exact k
noncomputable def GS(w:Int):O:=.inst 260 [(72,.int w),(61,.int 1)]
theorem A5{H:MH}(hd:3<=d)(hw:(w.natAbs:Int)<=1073741823)(k:Q .none (H.upd a (GS w))):pz Th (pB L) d 11 [.ref a,.int w,.int 1] (H.upd a (.inst 260 [])) Q E:=by refine call_of (fn:=SE) (qB hd rfl) rfl rfl ?_;simp![SE];refine qh (pV hd rfl) (fun J=>?_) fun z=>absurd (⟨Z.o 0x1110113030 [] [] rfl,Z.o 0x11103131130 [] [] rfl⟩) z;lia;refine qC (pV hd rfl) (fun J=>?_) fun z=>absurd hw z;lia;exact k
noncomputable def GU(l:List Int):O:=.inst 281 [(39,.bytes l)]
theorem Dy(hd:1<=d):∀(l:List Int) (q:V),(∀i∈l,0<=i/\i<=255)->(∀q,K .next [.ref a,.bytes bs,q] H)->
  rY (lp Th (pz Th (pB L) d) (.v 2) (.cons (.pT (.no (.call 2 (.cons (.v 2) (.cons (.c (.int 0)) (.cons (.c (.int 255)) .nil))))) (.cons .bad .nil) .nil) .nil) E) (fun J=>True) (l.map .int) [.ref a,.bytes bs,q] H K:=by
 intro l;induction l with
 |nil=>exact fun q J k=>⟨trivial,k q⟩
 |cons x l Dz=>exact fun q hl k=>by refine pQ trivial fun R hR=>?_;simp![lp];refine qh (qB hd rfl) (fun J=>?_) fun z=>absurd (hl x (by simp)) z;lia;exact hR _ _ (Dz _ (fun i hi=>hl i (by simp[hi])) k)
theorem Ir{H:MH}(hd:2<=d)(hl:l.length<=pq)(hb:∀i∈l,0<=i/\i<=255)(k:Q .none (H.upd a (GU l))):pz Th (pB L) d 12 [.ref a,.bytes l] (H.upd a (.inst 281 [])) Q E:=by refine call_of (fn:=SF) (qB hd rfl) rfl rfl ?_;simp![SF];refine qt.VY ⋯ ?_;lia;refine qr.bytes hl (Dy (pV hd rfl) l _ hb fun q=>?_);lia;refine qt.VW ?_;lia;exact k
end
structure Row where
 sz:Int
 sp:Nat
 st:Nat
noncomputable abbrev Rows:=List (Addr×Row)
noncomputable def AK(r:Row):O:=.list [.int r.sz,.int r.sp,.int r.st]
noncomputable def refs(rs:Rows):List V:=rs.map fun x=>.ref x.1
structure ti(H:MH)(m mr:Addr)(plain:Int)(rs:Rows):Prop where
 o:H m=some (.inst 469 [(44,.int plain),(51,.ref mr)])
 l:H mr=some (.list (refs rs))
 r:∀x∈rs,H x.1=some (AK x.2)
 nd:(m::mr::rs.map ar).Nodup
def LB(b:Int)(rs:Rows):Rows:=(rs.reverse.dropWhile (fun x=>decide (b<=x.2.sp))).reverse
def qY:Ss->Nat->S
 | .nil,_=>.bad
 | .cons s _,0=>s
 | .cons _ r,n+1=>qY r n
noncomputable def qk:S->Ss
 | .fr _ _ b=>b
 | .F8 _ b=>b
 | .pT _ a _=>a
 | .UZ _ _ b=>b
 |_=>.nil
noncomputable def Fj(sz:Int)(n:Nat)(seen:Int)(K:Int->Option (Nat×Nat×Bool))(r:Row):Option (Nat×Nat×Bool):=
 if r.sz=sz then(if(r.st=4/\seen≠1)\/(r.st=5/\seen≠2)then some (n,r.st,false)else if(r.st=0\/r.st=1)/\seen≠1 then some (n,4,true)else if(r.st=0\/r.st=2)/\seen≠2 then some (n,5,true)else K seen)
 else if r.st=4 then(if seen=2 then none else K 1)else if r.st=5 then(if seen=1 then none else K 2)else K seen
noncomputable def vO(sz:Int)(rs:List Row):Nat->Int->Option (Nat×Nat×Bool)
 |0,_=>none
 |n+1,seen=>(rs[n]?).bind (Fj sz n seen (vO sz rs n))
theorem x7(h:rs[n]? =some r):vO sz rs (n+1) seen=Fj sz n seen (vO sz rs n) r:=congrArg (md · (Fj sz n seen (vO sz rs n))) h
theorem A6(h:rs[n]? =none):vO sz rs (n+1) seen=none:=congrArg (md · (Fj sz n seen (vO sz rs n))) h
noncomputable def patch(l:List Int)(i:Nat)(s:Nat):List Int:=l.set i (l.getD i 0+(if s=4 then 5 else 10))
section
variable{L:List Fn}
theorem zB{H:MH}(hd:1<=d)(k:∀r,r≠a->H r=none->Q .none ((H.upd r (.list [])).upd a (.inst 469 [(44,.int p),(51,.ref r)]))):pz Th (pB L) d 31 [.ref a,.int p] (H.upd a (.inst 469 [])) Q E:=by refine call_of (fn:=SR) hd rfl rfl ?_;simp![SR];intro r hr;obtain⟨n1,n2⟩:=pA hr;lia;rw[<-Ls n1,pF];exact k r n1 n2
theorem OM(b:Int):LB b []=[]:=rfl
theorem LC(h:¬b<=x.2.sp):LB b (rs++[x])=rs++[x]:=by simp[LB,h]
theorem LD(h:b<=x.2.sp):LB b (rs++[x])=LB b rs:=by simp[LB,h]
theorem x8(rs:Rows)(x:Addr×Row):refs (rs++[x])=refs rs++[.ref x.1]:=by simp[refs]
theorem refs_length(rs:Rows):(refs rs).length=rs.length:=by simp[refs]
theorem Fo(hf:look 51 f=some (.ref mr))(nm:mr≠m):∀(n:Nat) (rs:Rows) (H:MH),rs.length=n->H m=some (.inst 469 f)->H mr=some (.list (refs rs))->(∀x∈rs,H x.1=some (AK x.2))->(∀x∈rs,mr≠x.1)->rs.length<=pq->
  K .next [.ref m,.int b] (H.upd mr (.list (refs (LB b rs))))->
  yx (sX Th (pz Th (pB L) d) ((X.cmp Cm.gt (X.blt Bi.len (Xs.cons ((X.v 0).attr 51) Xs.nil)) (X.c (V.int 0))).band (X.cmp Cm.ge ((((X.v 0).attr 51).sub (X.c (V.int 1)).neg).sub (X.c (V.int 1))) (X.v 1))) E)
   (vB Th (pz Th (pB L) d) (Ss.cons (S.expr (((X.v 0).attr 51).pD 45 Xs.nil)) Ss.nil) E) (n+1) [.ref m,.int b] H K:=by
 intro n;induction n with
 |zero=>intro rs H hn h1 h2 h3 h4 hl k;obtain rfl:=List.length_eq_zero_iff.mp hn;refine qV fun R J=>?_;simp![sX];refine ur.own h1 hf (qt.ud h2 (bW _) ?_);lia;rw[OM,x6 h2]at k;exact k
 |succ n ih=>
  intro rs H hn h1 h2 h3 h4 hl k;rcases List.eq_nil_or_concat rs with rfl|⟨rs0,x,rfl⟩
  ·exact nomatch hn
  ·rw[List.concat_eq_append]at*;rw[x8]at h2;have hl2:(refs rs0++[V.ref x.1]).length<=pq:=by rw[aa]at hl ⊢;rw[refs_length];exact hl
   refine qV fun R hR=>?_;simp![sX];refine ur.own h1 hf (qt.ud h2 hl2 ?_);lia;refine An (by rw[aa];simp) ?_;lia;refine ur.own h1 hf ?_;lia;refine vr.lst h2 ⋯ (by rw[aa];exact Lv) List.getElem?_concat_length ?_;refine vr.lst (h3 x (by simp)) ⋯ rfl rfl ?_;lia;refine vK (fun hb=>?_) fun hb=>?_
   ·simp![vB];refine ur.own h1 hf (xC.lst h2 ⋯ ?_);refine⟨_,h2,qS.pop ij hl2 ?_⟩;rw[ik];refine hR _ _ (ih rs0 _ (show rs0.length=n by rw[aa]at hn;exact eR hn) (pj nm.symm h1) (rN ..) (fun y hy=>pj (h4 y (by simp[hy])).symm (h3 y (by simp[hy]))) (fun y hy=>h4 y (by simp[hy])) (by rw[(show rs0.length=n by rw[aa]at hn;exact eR hn)];rw[hn]at hl;exact bC hl) ?_);rw[pF,<-LD hb];exact k
   ·rw[LC hb,x8,x6 h2]at k;exact k
theorem LF(hd:1<=d)(h:ti H m mr p rs)(hl:rs.length<=pq)(k:Q .none (H.upd mr (.list (refs (LB b rs))))):pz Th (pB L) d 32 [.ref m,.int b] H Q E:=by refine call_of (fn:=SU) hd rfl rfl ?_;simp![SU];have nd:=h.nd;simp only[aW,aA,aY,not_or,not_exists,not_and]at nd;exact⟨rs.length+1,Fo rfl (Ne.symm nd.1.1) _ rs H rfl h.o h.l h.r (fun x hx e=>nd.2.1 x hx e.symm) hl k⟩
def XH:Ss:=qk (qY K9.body 1)
theorem small(h:n<=b)(hb:b<=pq):(n:Int).natAbs<2^60:=bM (ae h hb) ⋯
theorem Iu{a b:Nat}:((a:Int)=(b:Int))↔a=b:=Int.ofNat_inj
end
def Dc(c:pK)(t:X)(U:Loc)(H:MH)(E:QE)(P:Prop):Prop:=∀R:Bool->MH->Prop,(P->R true H)->(¬P->R false H)->wT Th c t U H R E
section
variable{c:pK}{a b:X}{U:Loc}{H:MH}{E:QE}{P P':Prop}
theorem Dc.or(h:Dc c a U H E P)(h':Dc c b U H E P'):Dc c (.bor a b) U H E (P\/P'):=fun R k1 k2=>h _ (fun p=>k1 (.inl p)) fun p=>h' _ (fun q=>k1 (.inr q)) fun q=>k2 fun z=>z.elim p q
theorem Dc.and(h:Dc c a U H E P)(h':Dc c b U H E P'):Dc c (.band a b) U H E (P/\P'):=fun R k1 k2=>h _ (fun p=>h' _ (fun q=>k1 ⟨p,q⟩) fun q=>k2 fun z=>q z.2) fun p=>k2 fun z=>p z.1
theorem Dc.pT(h:Dc c a U H E P)(h1:P->wSs Th c x U H K E)(h2:¬P->wSs Th c y U H K E):wS Th c (.pT a x y) U H K E:=h _ (fun p=>h1 p) fun p=>h2 p
end
section
variable{L:List Fn}
theorem LG(h:ti H m mr p rs)(ho:H oc=some (.list (iL tG)))(hr:rs.length<=pq)(A7:oc∉m::mr::rs.map ar)(hs:∀x∈rs,x.2.sp<tG.length)(BL:tG.length<=pq):
  ∀(n:Nat) (seen:Int) (q1 q2 q3 q4:V),n<=rs.length->
  (vO sz (rs.map cf) n seen=none->∀U,K .next U H/\K (.ret (.int (-1))) U H)->
  (∀i s pt x,rs[i]? =some x->vO sz (rs.map cf) n seen=some (i,s,pt)->∀U,K (.ret (.int i)) U (if pt then(H.upd oc (.list (iL (patch tG x.2.sp s)))).upd x.1 (AK {x.2 with st:=s})else H))->
  rY (lp Th (pz Th (pB L) d) (.v 4) XH E) (fun J=>True) (sW ((n:Int) - 1) (-1) (-1)) [.ref m,.ref oc,.int sz,.int seen,q1,q2,q3,q4] H K:=by
 intro n;induction n with
 |zero=>intro seen q1 q2 q3 q4 hn k0 k1;refine A4.symm▸?_;exact⟨trivial,(k0 rfl _).1⟩
 |succ n ih=>
  intro seen q1 q2 q3 q4 hn k0 k1;rw[A3];obtain⟨⟨a,r⟩,hx⟩:∃x,rs[n]? =some x:=⟨_,bc hn⟩;have hm:=cv hx;have XI:=h.r _ hm;have e1:(refs rs)[n]? =some (.ref a):=by simp[refs,hx]
  have n60:=small (bC hn) hr;have en:idx (refs rs).length (n:Int)=some n:=sU (by rw[refs_length];exact hn);have rows:∀(H':MH) (Q:QV),H' m=some (.inst 469 [(44,.int p),(51,.ref mr)])->H' mr=some (.list (refs rs))->Q (.ref a) H'->ur Th 51 H' (fun u H2=>vr H2 Q u (.int n)) (.ref m):=fun H' Q g1 g2 q=>.own g1 rfl (.lst g2 n60 en e1 q);refine pQ trivial fun R hR=>?_;simp![lp,XH,qY,qk,K9,-qP];refine ur.own h.o rfl (.lst h.l n60 en e1 ?_);refine⟨_,.lst XI,rfl,?_⟩;simp![-qP];have hS:=x7 (sz:=sz) (seen:=seen) (rs:=rs.map cf) (n:=n) (r:=r) (by refine bO▸?_;refine hx▸?_;rfl);rw[hS,Fj]at k0 k1;clear hS;have again:∀DA:Int,(vO sz (rs.map cf) n DA=none->∀U,K .next U H/\K (.ret (.int (-1))) U H)->
    (∀i s pt x,rs[i]? =some x->vO sz (rs.map cf) n DA=some (i,s,pt)->∀U,K (.ret (.int i)) U (if pt then(H.upd oc (.list (iL (patch tG x.2.sp s)))).upd x.1 (AK {x.2 with st:=s})else H))->
    R [.ref m,.ref oc,.int sz,.int DA,.int n,.int r.sz,.int r.sp,.int r.st] H:=fun DA a b=>hR _ _ (ih DA _ _ _ _ (bC hn) a b)
  have sp:=hs _ hm;have spi:idx (iL tG).length (r.sp:Int)=some r.sp:=sU (by rw[ah];exact sp);have e2:(iL tG)[r.sp]? =some (.int tG[r.sp]):=by rw[bO,bc sp];rfl
  have XJ:=small (bC sp) BL;simp only[aA,not_or]at A7;have na:a≠oc:=fun z=>A7.2.2 (z▸aY.mpr ⟨_,hm,rfl⟩);have T7:∀{k:Nat},Dc (pz Th (pB L) d) (.cmp .eq (.v 7) (.c (.int k))) [.ref m,.ref oc,.int sz,.int seen,.int n,.int r.sz,.int r.sp,.int r.st] H E (r.st=k):=fun{k} R k1 k2=>by lia;exact vK (fun z=>k1 (Iu.mp z)) fun z=>k2 fun q=>z (Iu.mpr q)
  have S:∀{k:Int},Dc (pz Th (pB L) d) (.cmp .ne (.v 3) (.c (.int k))) [.ref m,.ref oc,.int sz,.int seen,.int n,.int r.sz,.int r.sp,.int r.st] H E (seen≠k):=fun{k} R k1 k2=>by lia;exact vK k1 k2
  have S':∀{k:Int},Dc (pz Th (pB L) d) (.cmp .eq (.v 3) (.c (.int k))) [.ref m,.ref oc,.int sz,.int seen,.int n,.int r.sz,.int r.sp,.int r.st] H E (seen=k):=fun{k} R k1 k2=>by lia;exact vK k1 k2
  have bump:∀(s:Nat) (w:Int) (K':MH->Prop),(if s=4 then 5 else 10)=w->K' (H.upd oc (.list (iL (patch tG r.sp s))))->
    CK H (fun u H2=>xD H2 (fun z H3=>yv z H3 K' (.ref oc) (.int r.sp)) .add u (.int w)) (.ref oc) (.int r.sp):=fun s w K' hw k=>by
   refine .lst ho XJ spi e2 (.add (.lst ho XJ spi ?_))
   have e3:(iL tG).set r.sp (.int (tG[r.sp]+w))=iL (patch tG r.sp s):=by unfold patch;rw[hw,cD,bc sp];exact List.map_set.symm
   exact e3▸(k)
  have put2:∀(o:O) (s:Int) (K':MH->Prop),K' ((H.upd oc o).upd a (.list [.int r.sz,.int r.sp,.int s]))->ur Th 51 (H.upd oc o) (fun u H5=>vr H5 (fun u H6=>yv (.int s) H6 K' u (.int 2)) u (.int n)) (.ref m):=fun o s K' k=>rows _ _ (pj (fun z=>A7.1 z.symm) h.o) (pj (fun z=>A7.2.1 z.symm) h.l) (.lst (pj na XI) ⋯ rfl k);refine Dc.pT (P:=r.sz=sz) (fun R k1 k2=>by lia;exact vK k1 k2) (fun c0=>?_) fun c0=>?_
  ·rw[if_pos c0]at k0 k1;simp![-qP];refine Dc.pT (Dc.or (Dc.and T7 S) (Dc.and T7 S)) (fun c1=>?_) fun c1=>?_
   ·simp![-qP];exact k1 n r.st false _ hx (if_pos c1) _
   ·rw[if_neg c1]at k0 k1;simp![-qP];refine Dc.pT (Dc.and (Dc.or T7 T7) S) (fun c2=>?_) fun c2=>?_
    ·simp![-qP];refine bump 4 5 _ rfl ?_;simp![-qP];refine put2 _ 4 _ ?_;exact k1 n 4 true _ hx (if_pos c2) _
    ·rw[if_neg c2]at k0 k1;simp![-qP];refine Dc.pT (Dc.and (Dc.or T7 T7) S) (fun c3=>?_) fun c3=>?_
     ·simp![-qP];refine bump 5 10 _ rfl ?_;simp![-qP];refine put2 _ 5 _ ?_;exact k1 n 5 true _ hx (if_pos c3) _
     ·rw[if_neg c3]at k0 k1;exact again _ k0 k1
  ·rw[if_neg c0]at k0 k1;simp![-qP];refine Dc.pT T7 (fun c1=>?_) fun c1=>?_
   ·rw[if_pos c1]at k0 k1;simp![-qP];refine Dc.pT S' (fun c2=>?_) fun c2=>?_
    ·simp![-qP];exact(k0 (if_pos c2) _).2
    ·rw[if_neg c2]at k0 k1;simp![-qP];exact again _ k0 k1
   ·rw[if_neg c1]at k0 k1;simp![-qP];refine Dc.pT T7 (fun c2=>?_) fun c2=>?_
    ·rw[if_pos c2]at k0 k1;simp![-qP];refine Dc.pT S' (fun c3=>?_) fun c3=>?_
     ·simp![-qP];exact(k0 (if_pos c3) _).2
     ·rw[if_neg c3]at k0 k1;simp![-qP];exact again _ k0 k1
    ·rw[if_neg c2]at k0 k1;simp![-qP];exact again _ k0 k1
end
noncomputable def rA(st used:Nat):Nat:=if used=4 then(if st=0 then 2 else if st=1 then 3 else st)else(if st=0 then 1 else if st=2 then 3 else st)
def BO(s:Nat)(r:Row):Row:=⟨r.sz,r.sp,s⟩
noncomputable def Iv:Rows->Nat->Nat->Rows
 |[],_,_=>[]
 |(a,r)::rs,0,s=>(a,BO s r)::rs.map fun x=>(x.1,BO (rA x.2.st s) x.2)
 |x::rs,i+1,s=>x::Iv rs i s
theorem DB:∀(rs:Rows) (i s:Nat),(Iv rs i s).map ar=rs.map ar
 |[],_,_=>rfl
 |(a,r)::rs,0,s=>congrArg (a::·) (by rw[dP];rfl)
 |x::rs,i+1,s=>congrArg (x.1::·) (DB rs i s)
section
variable{L:List Fn}
theorem Ub(hd:1<=d)(h:ti H m mr p rs)(ho:H oc=some (.list (iL tG)))(hr:rs.length<=pq)(A7:oc∉m::mr::rs.map ar)(hs:∀x∈rs,x.2.sp<tG.length)(BL:tG.length<=pq)
  (k0:vO sz (rs.map cf) rs.length 0=none->Q (.int (-1)) H)
  (k1:∀i s pt x,rs[i]? =some x->vO sz (rs.map cf) rs.length 0=some (i,s,pt)->Q (.int i) (if pt then(H.upd oc (.list (iL (patch tG x.2.sp s)))).upd x.1 (AK (BO s x.2))else H)):
  pz Th (pB L) d 34 [.ref m,.ref oc,.int sz] H Q E:=by
 refine call_of (fn:=K9) hd rfl rfl ?_;have ho1:=h.o;have XK:=small (aF rs.length) hr;simp![K9];refine qt.ud h.l (by rw[refs_length];exact hr) ?_;lia;rw[refs_length];refine qt.Q9 (Z.wl (Z.o 0x1110113862000000000000000100000000f3651 [] [_] rfl) (Z.o 0x111111396860000000000000000100000000f3962000000000000000100000000f361138621 [] [_,_] rfl XK (bF (a:=↑(dj rs))))) ⋯ (.inr rfl) (qr.Ak (.inr rfl) (Z.wl (Z.o 0x1110113862000000000000000100000000f3651 [] [_] rfl) (Z.o 0x111111396860000000000000000100000000f3962000000000000000100000000f361138621 [] [_,_] rfl XK (bF (a:=↑(dj rs))))) ⋯ ?_);refine LG h ho hr A7 hs BL rs.length 0 _ _ _ _ (aF _) (fun z U=>⟨?_,?_⟩) fun i s pt x a b U=>?_
 ·lia;exact k0 z
 ·lia;exact k0 z
 ·lia;exact k1 i s pt x a b
theorem Iw{Q:QV}(hd:1<=d)(k:Q (.int (rA st used)) H):pz Th (pB L) d 35 [.int st,.int used] H Q E:=by
 refine call_of (fn:=SV) hd rfl rfl ?_;unfold rA at k;have go:∀{a b:Nat} {x y:Nat->Prop} {q:Bool->Prop},((a=b->q true)/\(¬a=b->q false))->qm q ((a:Int)=(b:Int)):=fun h=>vK (fun z=>h.1 (Iu.mp z)) fun z=>h.2 fun q=>z (Iu.mpr q);simp![SV];refine go (b:=4) (x:=fun J=>True) (y:=fun J=>True) ⟨fun c=>?_,fun c=>?_⟩
 ·rw[if_pos c]at k;lia;refine go (b:=0) (x:=fun J=>True) (y:=fun J=>True) ⟨fun c=>?_,fun c=>?_⟩
  ·rw[if_pos c]at k;exact k
  ·rw[if_neg c]at k;lia;refine go (b:=1) (x:=fun J=>True) (y:=fun J=>True) ⟨fun c=>?_,fun c=>?_⟩
   ·rw[if_pos c]at k;exact k
   ·rw[if_neg c]at k;exact k
 ·rw[if_neg c]at k;lia;refine go (b:=0) (x:=fun J=>True) (y:=fun J=>True) ⟨fun c=>?_,fun c=>?_⟩
  ·rw[if_pos c]at k;exact k
  ·rw[if_neg c]at k;lia;refine go (b:=2) (x:=fun J=>True) (y:=fun J=>True) ⟨fun c=>?_,fun c=>?_⟩
   ·rw[if_pos c]at k;exact k
   ·rw[if_neg c]at k;exact k
def XM:Ss:=qk (qY E7.body 3)
noncomputable def BQ(s:Nat):Rows->MH->MH
 |[],H=>H
 |x::r,H=>BQ s r (H.upd x.1 (AK (BO (rA x.2.st s) x.2)))
theorem uj:∀(rs:Rows) (H:MH),b∉rs.map ar->BQ s rs H b=H b:=by
 intro rs;induction rs with
 |nil=>exact fun H J=>rfl
 |cons x r pS=>exact fun H h=>(pS _ fun z=>h (.tail _ z)).trans (sL fun z=>h (z▸.head _))
theorem DC:∀(rs:Rows) (H:MH),(rs.map ar).Nodup->∀x∈rs,BQ s rs H x.1=some (AK (BO (rA x.2.st s) x.2)):=by
 intro rs;induction rs with
 |nil=>exact fun H J x hx=>nomatch hx
 |cons y r pS=>
  exact fun H nd x hx=>by
   rcases aA.mp hx with e|e
   ·subst e;exact(uj r _ (aW.mp nd).1).trans up_eq
   ·exact pS _ (aW.mp nd).2 x e
theorem LH{s:Nat}(hd:1<=d):∀(rs:Rows) (H:MH) (q:V),H f=some (.list fl)->(∀x∈rs,H x.1=some (AK x.2))->(rs.map ar).Nodup->f∉rs.map ar->
  (∀q,K .next [.ref m,.ref oc,.int sz,.int hi,.int s,q] (BQ s rs H))->
  rY (lp Th (pz Th (pB L) d) (.v 5) XM E) (fun H'=>H' f=some (.list fl)) (refs rs) [.ref m,.ref oc,.int sz,.int hi,.int s,q] H K:=by
 intro x_;induction x_ with
 |nil=>intro H q h1 h2 nd nf k;exact⟨h1,k q⟩
 |cons p_ rs ih=>obtain⟨a,r⟩:=p_;intro H q h1 h2 nd nf k;have nd:=aW.mp nd;refine pQ h1 fun R hR=>?_;have hr:=h2 (a,r) (.head _);simp![lp,XM,qY,qk,E7];refine .lst hr ⋯ rfl rfl ?_;refine Iw (qB hd rfl) ?_;refine .lst hr ⋯ rfl ?_;refine hR _ _ (ih _ _ (pj (fun z=>nf (z▸.head _)) h1) (fun x hx=>pj (fun z=>nd.1 (z▸aY.mpr ⟨x,hx,rfl⟩)) (h2 x (.tail _ hx))) nd.2 (fun z=>nf (.tail _ z)) fun q=>?_);exact k q
theorem ON:∀{n:Nat} {seen:Int},vO sz rs n seen=some (i,s,false)->∃r,rs[i]? =some r/\r.st=s:=by
 intro n;induction n with
 |zero=>exact @fun J h=>nomatch h
 |succ n v8=>
  exact @fun seen h=>by
   cases hr:rs[n]? with
   |none=>exact Z.nS ((A6 hr).symm.trans h)
   |some r=>
    rw[x7 hr,Fj]at h;(repeat' split at h)<;>first|cases h|exact v8 h
    exact⟨r,hr,rfl⟩
theorem LI(h:l[i]? =some x):l=l.take i++x::l.drop (i+1):=by have:=List.take_append_drop i l;rw[dK (bK.mp h).1,(bK.mp h).2]at this;exact this.symm
theorem Iy(rs:Rows)(i:Nat):refs (rs.drop i)=(refs rs).drop i:=nM
theorem zC:∀{rs:Rows} {i s:Nat} {x:Addr×Row},rs[i]? =some x->Iv rs i s=rs.take i++(x.1,BO s x.2)::(rs.drop (i+1)).map fun x=>(x.1,BO (rA x.2.st s) x.2)
 |[],i,s,x,h=>nomatch h
 |(a,r)::rs,0,s,x,h=>by obtain rfl:=au h;rfl
 |y::rs,i+1,s,x,h=>congrArg (y::·) (zC (rs:=rs) (i:=i) (s:=s) h)
end
section
variable{L:List Fn}{H H':MH}{m mr oc:Addr}{p:Int}{rs l1 l2:Rows}{x:Addr×Row}
theorem ti.frame(h:ti H m mr p rs)(k:∀b,b∈m::mr::rs.map ar->H' b=H b):ti H' m mr p rs:=
 ⟨(k m (.head _)).trans h.o,(k mr (.tail _ (.head _))).trans h.l,fun y hy=>(k y.1 (.tail _ (.tail _ (aY.mpr ⟨y,hy,rfl⟩)))).trans (h.r y hy),h.nd⟩
structure Mid(m mr:Addr)(l1 l2:Rows)(a:Addr):Prop where
 m1:m≠mr
 m2:a≠m
 m3:a≠mr
 m4:m∉l2.map ar
 m5:mr∉l2.map ar
 n1:∀y∈l1,y.1≠a
 n2:a∉l2.map ar
 n3:∀y∈l1,y.1∉l2.map ar
 nd:(l2.map ar).Nodup
theorem BR(nd:(m::mr::(l1++x::l2).map ar).Nodup):Mid m mr l1 l2 x.1:=by rw[aW,aW,aG,bL,cM,aW]at nd;obtain⟨a1,wd⟩:=nd;have i1:∀{y},y∈l1->y.1∈l1.map ar:=fun h=>aY.mpr ⟨_,h,rfl⟩;exact⟨fun z=>a1 (z▸.head _),fun z=>a1 (z▸.tail _ (aM.mpr (.inr (.head _)))),fun z=>wd.1 (z▸aM.mpr (.inr (.head _))),fun z=>a1 (.tail _ (aM.mpr (.inr (.tail _ z)))),fun z=>wd.1 (aM.mpr (.inr (.tail _ z))),fun y hy=>wd.2.2.2 _ (i1 hy) _ (.head _),wd.2.2.1.1,fun y hy z=>wd.2.2.2 _ (i1 hy) _ (.tail _ z) rfl,wd.2.2.1.2⟩
theorem ti.an6(h:ti H m mr p (l1++x::l2))(k:∀b,b≠x.1->b∈m::mr::(l1++x::l2).map ar->H' b=H b)(kx:H' x.1=some (AK (BO s x.2))):ti H' m mr p (l1++(x.1,BO s x.2)::l2):=by
 have M:=BR h.nd;refine⟨(k m M.m2.symm (.head _)).trans h.o,((k mr M.m3.symm (.tail _ (.head _))).trans h.l).trans (by simp[refs]),fun y hy=>?_,by have:=h.nd;rw[aG,bL]at this ⊢;exact this⟩;rcases aM.mp hy with hy|hy
 ·exact(k _ (M.n1 y hy) (.tail _ (.tail _ (aY.mpr ⟨y,aM.mpr (.inl hy),rfl⟩)))).trans (h.r y (aM.mpr (.inl hy)))
 ·rcases aA.mp hy with e|hy
  ·subst e;exact kx
  ·exact(k _ (fun z=>M.n2 (z▸aY.mpr ⟨y,hy,rfl⟩)) (.tail _ (.tail _ (aY.mpr ⟨y,aM.mpr (.inr (.tail _ hy)),rfl⟩)))).trans (h.r y (aM.mpr (.inr (.tail _ hy))))
theorem ti.bar(h:ti H m mr p (l1++x::l2)):ti (BQ s l2 H) m mr p (l1++x::l2.map fun x=>(x.1,BO (rA x.2.st s) x.2)):=by
 have M:=BR h.nd;refine⟨(uj l2 _ M.m4).trans h.o,((uj l2 _ M.m5).trans h.l).trans (by simp[refs,lW]),fun y hy=>?_,by have:=h.nd;rw[aG,bL]at this ⊢;rw[dP];exact this⟩;rcases aM.mp hy with hy|hy
 ·exact(uj l2 _ (M.n3 y hy)).trans (h.r y (aM.mpr (.inl hy)))
 ·rcases aA.mp hy with e|hy
  ·subst e;exact(uj l2 _ M.n2).trans (h.r y (aM.mpr (.inr (.head _))))
  ·obtain⟨z,hz,e⟩:=aY.mp hy;repeat first|clear s|clear h|clear x|clear y|clear hy
   subst e;exact DC l2 _ M.nd z hz
theorem ti.snoc{r:Row}(h:ti H m mr p rs)(ha:H a=none)(ea:H' a=some (AK r))(el:H' mr=some (.list (refs rs++[.ref a])))(k:∀b,b≠mr->b∈m::mr::rs.map ar->H' b=H b):ti H' m mr p (rs++[(a,r)]):=by
 have nd:=h.nd;rw[aW,aW]at nd;have na:a∉m::mr::rs.map ar:=fun z=>by
  rcases aA.mp z with e|z
  ·have ha:=e▸ha;have ha:=h.o▸ha;cases ha
  ·rcases aA.mp z with e|z
   ·rw[e,h.l]at ha;exact nomatch ha
   ·obtain⟨y,XN⟩:=aY.mp z;rw[<-XN.2,h.r y XN.1]at ha;exact nomatch ha
 refine⟨(k m (fun z=>nd.1 (z▸.head _)) (.head _)).trans h.o,el.trans (by rw[x8]),fun y hy=>?_,?_⟩
 ·rcases aM.mp hy with hy|hy
  ·have hm:y.1∈rs.map ar:=aY.mpr ⟨y,hy,rfl⟩;exact(k y.1 (fun z=>nd.2.1 (z▸hm)) (.tail _ (.tail _ hm))).trans (h.r y hy)
  ·obtain rfl:=aI.mp hy;exact ea
 ·rw[aG,<-bT,<-bT,cM];exact⟨h.nd,by simp,fun b hb c hc z=>na (by rw[show c=a from aI.mp hc]at z;exact z▸hb)⟩
def Fix(oc mr:Addr)(rs:Rows)(H H':MH):Prop:=∀b o,b≠oc->b≠mr->b∉rs.map ar->H b=some o->H' b=some o
def LJ:Ss:=match E7.body with
 | .cons _ (.cons _ r)=>r
 |r=>r
theorem DD{sz:Int}(hd:1<=d)(h:ti H m mr p (l1++x::l2))(hx:x.2.st=s)(ho:H oc=some (.list (iL ob)))(hi:l1.length=i)(hl:l1.length+l2.length+2<=pq)(A7:oc∉m::mr::(l1++x::l2).map ar)(BL:ob.length+5<=pq)
  (k:∀H' a,H a=none->ti H' m mr p ((l1++x::l2.map fun x=>(x.1,BO (rA x.2.st s) x.2))++[(a,⟨sz,ob.length,s⟩)])->H' oc=some (.list (iL (ob++[p+if s=4 then 4 else 9])))->Fix oc mr (l1++x::l2) H H'->Q .none H'):
  wSs Th (pz Th (pB L) d) LJ [.ref m,.ref oc,.int sz,.int i,.rG,.rG] H (rK Q) E:=by
 have M:=BR h.nd;have o1:oc≠m:=fun z=>A7 (z▸.head _);have o2:oc≠mr:=fun z=>A7 (z▸.tail _ (.head _));have o3:oc∉(l1++x::l2).map ar:=fun z=>A7 (.tail _ (.tail _ z));have sub:∀{b},b∈l2.map ar->b∈(l1++x::l2).map ar:=fun hb=>by rw[aG];exact aM.mpr (.inr (.tail _ hb))
 have g1:=h.o;have g2:=h.l;have g3:=h.r x (aM.mpr (.inr (.head _)));have ei:idx (refs (l1++x::l2)).length (i:Int)=some i:=sU (by rw[refs_length,aa,<-hi];exact Nat.lt_add_of_pos_right (cH _));have gi:(refs (l1++x::l2))[i]? =some (.ref x.1):=by refine hi.symm▸?_;simp[refs]
 have i60:(i:Int).natAbs<2^60:=small (b:=pq) (Z.o 0x111101149213ba1158a72985 [] [_,_,_,_] rfl hi hl) (aF _);have ll:(l1++x::l2).length+1<=pq:=aa▸a8▸hl;simp![LJ,E7];refine .lst g2 i60 ei gi ?_;refine .lst g3 ⋯ rfl rfl ?_;refine hx▸?_;lia;refine(show((i:Int)+1)=((i+1:Nat):Int)from rfl)▸?_;refine .lst g2 .int .none (by rw[refs_length];exact ae (cq ll) ⋯) fun f hf=>?_;rw[Io,<-Iy,show(l1++x::l2).drop (i+1)=l2 by rw[<-hi,jA,gI (bA _)];simp];have nf:∀{b o},H b=some o->b≠f:=fun e=>px hf e;have f2:f∉l2.map ar:=fun z=>by obtain⟨y,hy,e⟩:=aY.mp z;exact nf (h.r y (aM.mpr (.inr (.tail _ hy)))) e
 refine .lst up_eq (by rw[refs_length];exact Z.UY _ (Z.off _ hl)) (LH hd l2 _ _ up_eq (fun y hy=>pj (nf (h.r y (aM.mpr (.inr (.tail _ hy))))) (h.r y (aM.mpr (.inr (.tail _ hy))))) M.nd f2 fun q=>?_);have h1:ti (H.upd f (.list (refs l2))) m mr p (l1++x::l2):=h.frame fun b hb=>by
  refine sL fun z=>?_;rcases aA.mp hb with e|hb
  ·exact nf g1 (e.symm.trans z)
  ·rcases aA.mp hb with e|hb
   ·exact nf g2 (e.symm.trans z)
   ·obtain⟨y,hy,e⟩:=aY.mp hb;exact nf (h.r y hy) (e.trans z)
 have h2:=h1.bar (s:=s);have v3:BQ s l2 (H.upd f (.list (refs l2))) oc=some (.list (iL ob)):=(uj l2 _ fun z=>o3 (sub z)).trans (pj (nf ho) ho);have fx:Fix oc mr (l1++x::l2) H (BQ s l2 (H.upd f (.list (refs l2)))):=fun b o b1 b2 b3 b4=>(uj l2 _ fun z=>b3 (sub z)).trans (pj (nf b4) b4);have fresh:∀b,BQ s l2 (H.upd f (.list (refs l2))) b=none->H b=none:=fun b hb=>by
  by_cases z:b∈l2.map ar
  ·obtain⟨y,hy,e⟩:=aY.mp z;rw[<-e,DC l2 _ M.nd y hy]at hb;exact nomatch hb
  ·rw[uj l2 _ z]at hb;exact(pA hb).2
 generalize BQ s l2 (H.upd f (.list (refs l2)))=H2 at h2 v3 fx fresh;have w1:=h2.o;have w2:=h2.l;simp![-Fh];refine qt.ud v3 (by rw[ah];exact Z.off 5 BL) ?_;simp![-Fh];intro a ha;have am:=px ha w1;have XO:=px ha w2;have ao:=px ha v3;rw[ah];refine⟨_,pj XO w2,.app (by rw[refs_length];simp;exact bC hl) ?_⟩;simp![-Fh];have fin:∀w:Int,(p+if s=4 then 4 else 9)=p+w->∃l,(((H2.upd a (.list [.int sz,.int ob.length,.int s])).upd mr (.list (refs (l1++x::l2.map fun x=>(x.1,BO (rA x.2.st s) x.2))++[.ref a])))) oc=some (.list l)/\qS oc l ((H2.upd a (.list [.int sz,.int ob.length,.int s])).upd mr (.list (refs (l1++x::l2.map fun x=>(x.1,BO (rA x.2.st s) x.2))++[.ref a]))) (fun J H1=>Q .none H1) 1 [.int (p+w)]:=fun w hw=>by
  refine⟨_,pj o2 (pj ao v3),.app (by rw[ah];exact Z.off 5 BL) (k _ a (fresh a ha) (h2.snoc ha (r:=⟨sz,ob.length,s⟩) (pj ao.symm (pj XO.symm up_eq)) (pj o2.symm up_eq) fun b b1 b2=>?_) (by rw[rN,hw];simp[iL]) fun b o b1 b2 b3 b4=>pj b1 (pj b2 (pj (px ha (fx b o b1 b2 b3 b4)) (fx b o b1 b2 b3 b4))))⟩;have bo:b≠oc:=fun z=>A7 (by refine z.symm▸?_;simpa[aG,lW]using b2);have ba:b≠a:=fun z=>by
   rcases aA.mp b2 with e|b2
   ·exact am (e.symm.trans z)
   ·rcases aA.mp b2 with e|b2
    ·exact b1 e
    ·obtain⟨y,hy,e⟩:=aY.mp b2;exact px ha (h2.r y hy) (e.trans z)
  exact(sL bo).trans ((sL b1).trans (sL ba))
 refine .own (pj M.m1 (pj am w1)) rfl ?_;lia;refine vK (fun z=>?_) fun z=>?_
 ·lia;exact fin 4 (by rw[if_pos (Iu.mp z)])
 ·lia;exact fin 9 (by rw[if_neg fun y=>z (Iu.mpr y)])
theorem OO{sz:Int}(hd:3<=d)(h:ti H m mr p rs)(ho:H oc=some (.list (iL tG)))(hr:rs.length+1<=pq)(A7:oc∉m::mr::rs.map ar)(hs:∀x∈rs,x.2.sp<tG.length)(BL:tG.length+5<=pq)
  (k0:vO sz (rs.map cf) rs.length 0=none->∀H' a,H a=none->ti H' m mr p (rs++[(a,⟨sz,tG.length,0⟩)])->H' oc=some (.list (iL (tG++(p+qo sz - 1)::be (qo sz) sz)))->Fix oc mr rs H H'->Q .none H')
  (k1:∀i s pt x,rs[i]? =some x->vO sz (rs.map cf) rs.length 0=some (i,s,pt)->∀H' a,H a=none->ti H' m mr p (Iv rs i s++[(a,⟨sz,tG.length,s⟩)])->H' oc=some (.list (iL ((if pt then patch tG x.2.sp s else tG)++[p+if s=4 then 4 else 9])))->Fix oc mr rs H H'->Q .none H'):
  pz Th (pB L) d 33 [.ref m,.ref oc,.int sz] H Q E:=by
 refine call_of (fn:=E7) (qB hd rfl) rfl rfl ?_;have g1:=h.o;have g2:=h.l;have nd:=h.nd;rw[aW,aW]at nd;have o1:oc≠m:=fun z=>A7 (z▸.head _);have o2:oc≠mr:=fun z=>A7 (z▸.tail _ (.head _));have o3:oc∉rs.map ar:=fun z=>A7 (.tail _ (.tail _ z));simp![E7,-qP];refine Ub (pV hd rfl) h ho (bC hr) A7 hs (Z.off 5 BL) (fun hz=>?_) fun i s pt x hx hz=>?_
 ·lia;refine qt.ud ho (by rw[ah];exact Z.off 5 BL) ?_;lia;intro a ha;have am:=px ha g1;have XO:=px ha g2;have ao:=px ha ho;rw[ah];refine⟨_,pj XO g2,.app (by rw[refs_length];exact bC hr) ?_⟩;lia;refine .own (pj (fun z=>nd.1 (z▸.head _)) (pj am g1)) rfl ?_;lia;refine AJ (pV hd rfl) (l:=iL tG) (by rw[ah];exact BL) (pj o2 (pj ao ho)) ?_;lia;refine k0 hz _ a ha (h.snoc ha (r:=⟨sz,tG.length,0⟩) (pj ao.symm (pj XO.symm up_eq)) (pj o2.symm up_eq) fun b b1 b2=>?_) (by rw[rN];simp[iL]) fun b o b1 b2 b3 b4=>pj b1 (pj b2 (pj (px ha b4) b4));have bo:b≠oc:=fun z=>A7 (z▸b2);have ba:b≠a:=fun z=>by
   rcases aA.mp b2 with e|b2
   ·exact am (e.symm.trans z)
   ·rcases aA.mp b2 with e|b2
    ·exact b1 e
    ·obtain⟨y,hy,e⟩:=aY.mp b2;exact px ha (h.r y hy) (e.trans z)
  exact(sL bo).trans ((sL b1).trans (sL ba))
 ·simp![-qP];have hi:=(bK.mp hx).1;refine Dc.pT (P:=False) (fun R h1 h2=>?_) False.elim fun J=>?_
  ·lia;exact tD Z.ZH (h2 id)
  ·have e:=LI hx;have kk:=k1 i s pt x hx hz;rw[zC hx]at kk;generalize hl1:rs.take i=l1 at e kk;generalize hl2:rs.drop (i+1)=l2 at e kk;subst e;have li:l1.length=i:=hl1▸gO▸(gZ (bC hi));have hr:=aa▸hr;have hr:=a8▸hr;have M:=BR h.nd;have g3:=h.r x (aM.mpr (.inr (.head _)));have xo:x.1≠oc:=fun z=>o3 (z▸aY.mpr ⟨x,aM.mpr (.inr (.head _)),rfl⟩);show wSs Th (pz Th (pB L) (d - 1)) LJ [.ref m,.ref oc,.int sz,.int i,.rG,.rG] _ (rK Q) E;induction pt using aX with
   |true=>rw[if_pos rfl]at kk ⊢;refine DD (s:=s) (pV hd rfl) (h.an6 (s:=s) (fun b b1 b2=>(sL b1).trans (sL fun z=>A7 (z▸b2))) up_eq) rfl (pj xo.symm up_eq) li hr (fun z=>A7 (by rw[aG,bL]at z ⊢;exact z)) (by rw[patch,jQ];exact BL) fun H' a ha v1 v2 v3=>?_;have ha:=(pA (pA ha).2).2;rw[patch,jQ]at v1;refine kk H' a ha (by simpa using v1) (by rw[v2,patch]) fun b o b1 b2 b3 b4=>v3 b o b1 b2 (by rw[aG,bL]at b3 ⊢;exact b3) (pj (fun z=>b3 (z▸aY.mpr ⟨x,aM.mpr (.inr (.head _)),rfl⟩)) (pj b1 b4))
   |false=>
    rw[if_neg f5]at kk ⊢;obtain⟨r,e,hs'⟩:=ON hz;have er:r=x.2:=by rw[bO,hx]at e;exact(au e).symm
    refine DD (s:=s) (pV hd rfl) h (er▸hs') ho li hr A7 BL fun H' a ha v1 v2 v3=>?_;have e2:BO s x.2=x.2:=by unfold BO;rw[<-hs',er]
    refine kk H' a ha (by refine e2.symm▸?_;simpa using v1) v2 v3
end
end Mine.Internal
namespace Mine.Internal
section
set_option genInjectivity false
set_option genSizeOf false
set_option genCtorIdx true in
inductive Enc where|pl|st(k:Bool)|ag(k:Bool)
set_option genCtorIdx true in
inductive Op where
 |mv(d:Bool)(e:Enc)(sz:Int)
 |push|pop
 |Iz(n:Int)|uf(n:Int)|chr(c:Int)|uk(m:Bool)(h w:Int)|uC(l:List Int)
noncomputable def um(d k:Bool):Op->Int->List Int->Option (Int×List Int)
 | .mv d' e sz,c,s=>if d'=d then(match e with| .pl=>some (c,s)| .st j=>if j=k then some (sz,s)else some (c,s)| .ag j=>if j=k then(if c=sz then some (c,s)else none)else some (c,s))else some (c,s)
 | .push,c,s=>some (c,c::s)
 | .pop,_,s=>match s with|[]=>none|x::s=>some (x,s)
 |_,c,s=>some (c,s)
noncomputable def runC(d k:Bool):List Op->Int->List Int->Option (Int×List Int)
 |[],c,s=>some (c,s)
 |o::r,c,s=>match um d k o c s with|some (c',s')=>runC d k r c' s'|none=>none
theorem A8:runC d k (o::r) c s=match um d k o c s with|some (c',s')=>runC d k r c' s'|none=>none:=rfl
inductive Cell where|row(d:Bool)(sz:Int)(s:Nat)(e:Enc)|push|seg(l:List Op)
noncomputable def Cell.ops:Cell->List Op
 | .row d sz _ e=>[.mv d e sz]
 | .push=>[.push]
 | .seg l=>l
def pN(l:List Cell):List Op:=l.flatMap Cell.ops
noncomputable def IS(k:Bool):Nat:=if k then 5 else 4
def frees(k:Bool)(s:Nat):Prop:=s=0\/s=(if k then 2 else 1)
def cP(d k:Bool)(x:Cell)(c:Int):Prop:=match x with
 | .row d' sz s e=>d'=d->(s=IS k->(e=.st k\/(e=.ag k/\c=sz)))/\(s≠IS k->e≠.st k/\e≠.ag k)
 | .push=>True
 | .seg l=>∀s,runC d k l c s=some (c,s)
def cF(d k:Bool)(x:Cell)(c:Int):Int:=match x with
 | .row d' sz s _=>if d'=d/\s=IS k then sz else c
 |_=>c
def wg(d k:Bool)(l:List Cell):Int->Prop:=bN (motive:=fun J=>Int->Prop) (fun J=>True) (fun x J ih c=>cP d k x c/\ih (cF d k x c)) l
def fin(d k:Bool)(l:List Cell):Int->Int:=bN (motive:=fun J=>Int->Int) (fun c=>c) (fun x J ih c=>ih (cF d k x c)) l
def iP(d k:Bool)(r:List Cell)(x:Cell):Prop:=match x with
 | .row d' _ s _=>d'=d->frees k s->∀c,wg d k r c
 |_=>True
def inv(d k:Bool)(l:List Cell):Prop:=bN (motive:=fun J=>Prop) True (fun x r ih=>iP d k r x/\ih) l
theorem A9(x:Cell)(r:List Cell):pN (x::r)=x.ops++pN r:=rfl
theorem DE:pN []=[]:=rfl
theorem ql(a b:List Cell):pN (a++b)=pN a++pN b:=k7 ..
theorem yq:∀(a b:List Op) (c:Int) (s:List Int),runC d k (a++b) c s=match runC d k a c s with|some (c',s')=>runC d k b c' s'|none=>none:=by
 intro a;induction a with
 |nil=>exact fun J J J=>rfl
 |cons o a an7=>
  exact fun b c s=>by
   show(match um d k o c s with|some (c',s')=>runC d k (a++b) c' s'|none=>none)=match(match um d k o c s with|some (c',s')=>runC d k a c' s'|none=>none)with|some (c',s')=>runC d k b c' s'|none=>none
   cases um d k o c s with
   |none=>rfl
   |some p=>exact an7 b p.1 p.2
theorem qD(a b:List Cell):∀c:Int,wg d k (a++b) c↔wg d k a c/\wg d k b (fin d k a c):=by
 induction a with
 |nil=>exact fun c=>⟨fun h=>⟨trivial,h⟩,fun h=>h.2⟩
 |cons x a ih=>exact fun c=>(and_congr Iff.rfl (ih _)).trans and_assoc.symm
theorem LK(h:∀c,wg d k r c->wg d k r' c):iP d k r x->iP d k r' x:=by
 induction x using Cell.casesOn with
 |row=>exact fun f p q c=>h c (f p q c)
 |_=>exact id
theorem zD(h2:inv d k b)(h3:∀c,wg d k b c):inv d k a->inv d k (a++b):=by
 induction a with
 |nil=>exact fun J=>h2
 |cons x a ih=>exact fun h=>⟨LK (fun c z=>(qD a b c).mpr ⟨z,h3 _⟩) h.1,ih h.2⟩
def OP(d k:Bool)(l:List Cell):Prop:=∀c,fin d k l c=c
def LM(d:Bool)(used:Nat)(x:Cell):Cell:=match x with
 | .row d' sz s e=>.row d' sz (if d'=d then rA s used else s) e
 |x=>x
def uD(d:Bool)(used:Nat)(l:List Cell):List Cell:=l.map (LM d used)
theorem LN{p:Nat->Prop}(h:∀s<3,p s)(g:∀n,p (n+3))(s:Nat):p s:=(Nat.lt_or_ge s 3).elim (h s) fun z=>d8 z▸g (s - 3)
theorem LO(n u:Nat):rA (n+3) u=n+3:=by unfold rA;split<;>rfl
theorem zE(h:frees k s):s<3:=h.elim (fun e=>e▸by decide) fun e=>e▸by induction k using aX<;>decide
theorem OQ:(rA s (IS j)=IS k)↔s=IS k:=LN (p:=fun s=>(rA s (IS j)=IS k)↔s=IS k) (fun s h=>(by unfold rA IS;decide:∀s<3,∀k j,(rA s (IS j)=IS k)↔s=IS k) s h k j) (fun n=>by rw[LO]) s
theorem zF:frees k (rA s (IS j))->j≠k/\frees k s:=LN (p:=fun s=>frees k (rA s (IS j))->j≠k/\frees k s) (fun s h=>(by unfold frees rA IS;decide:∀s<3,∀k j,frees k (rA s (IS j))->j≠k/\frees k s) s h k j) (fun n h=>absurd (zE (LO n _▸h)) (b8.mpr (bI 3 n))) s
theorem XQ(k:Bool):¬IS k<3:=by induction k using aX<;>decide
theorem Uc(h:IS j=IS k):j=k:=(by unfold IS;decide:∀j k,IS j=IS k->j=k) j k h
theorem vP(h:frees j (IS k)):False:=XQ k (zE h)
section
variable{d k j d':Bool}
theorem LP[Decidable p]:((if p then rA s (IS j)else s)=IS k)=(s=IS k):=by split;exact propext OQ;rfl
theorem Ud(x:Cell)(c:Int):cP d k (LM d' (IS j) x) c=cP d k x c:=by
 induction x using Cell.casesOn with
 |row d2 sz s e=>show(d2=d->(_=IS k->_)/\(¬_=IS k->_))=_;rw[LP];rfl
 |_=>rfl
theorem LQ(x:Cell)(c:Int):cF d k (LM d' (IS j) x) c=cF d k x c:=by
 induction x using Cell.casesOn with
 |row d2 sz s e=>exact ite_congr (congrArg (d2=d/\·) LP) (fun J=>rfl) fun J=>rfl
 |_=>rfl
theorem BS:∀{c:Int},wg d k (uD d' (IS j) b) c↔wg d k b c:=by
 induction b with
 |nil=>exact Iff.rfl
 |cons x b ih=>exact fun{c}=>and_congr (Iff.of_eq (Ud x c)) ((Iff.of_eq (congrArg (wg d k (uD d' (IS j) b)) (LQ x c))).trans ih)
theorem OS:∀{c:Int},fin d k (uD d' (IS j) b) c=fin d k b c:=by
 induction b with
 |nil=>exact rfl
 |cons x b ih=>exact fun{c}=>(congrArg (fin d k (uD d' (IS j) b)) (LQ x c)).trans ih
theorem BU(h:inv d k x)(b:List Cell):inv d k (uD d (IS k) b++x):=by
 induction b with
 |nil=>exact h
 |cons y b ih=>
  refine⟨?_,ih⟩;induction y using Cell.casesOn with
  |row=>exact fun p q=>absurd rfl (zF (if_pos p▸q)).1
  |_=>exact trivial
theorem OT:inv d k b->inv d k (uD d' (IS j) b):=by
 induction b with
 |nil=>exact id
 |cons y b ih=>
  refine fun h=>⟨?_,ih h.2⟩;induction y using Cell.casesOn with
  |row d2 sz s e=>exact fun p q c=>BS.mpr (h.1 p (by
    by_cases z:d2=d'
    ·exact(zF (if_pos z▸q)).2
    ·exact(if_neg z:(if d2=d' then rA s (IS j)else s)=s)▸q) c)
  |_=>exact trivial
theorem Ba(a:List Cell):inv d k (a++b)->inv d k b:=by
 induction a with
 |nil=>exact id
 |cons x a ih=>exact fun h=>ih h.2
theorem zG(hy:inv d k y)(h:∀c,wg d k x c->wg d k y c)(a:List Cell):inv d k (a++x)->inv d k (a++y):=by
 induction a with
 |nil=>exact fun J=>hy
 |cons z a ih=>exact fun q=>⟨LK (fun c p=>have p:=(qD a x c).mp p;(qD a y c).mpr ⟨p.1,h _ p.2⟩) q.1,ih q.2⟩
theorem Fp(hs:(s0=IS k/\e'=e)\/(frees k s0/\e'=.st k))(hb:OP d k b)(h1:wg d k (a++.row d sz s0 e::b) 0)(h2:inv d k (a++.row d sz s0 e::b)):
  wg d k (a++.row d sz (IS k) e'::(uD d (IS k) b++[.row d sz (IS k) (.ag k)])) 0/\inv d k (a++.row d sz (IS k) e'::(uD d (IS k) b++[.row d sz (IS k) (.ag k)])):=by
 have key:∀c,wg d k (.row d sz s0 e::b) c->wg d k (.row d sz (IS k) e'::(uD d (IS k) b++[.row d sz (IS k) (.ag k)])) c:=fun c hc=>by refine⟨fun J=>⟨fun J=>hs.elim (fun z=>z.2▸(hc.1 rfl).1 z.1) fun z=>.inl z.2,fun z=>absurd rfl z⟩,?_⟩;show wg d k _ (if d=d/\IS k=IS k then sz else c);rw[if_pos ⟨rfl,rfl⟩,qD,OS,hb];refine⟨BS.mpr (hs.elim (fun z=>?_) fun z=>(Ba a h2).1 rfl z.1 sz),fun J=>⟨fun J=>.inr ⟨rfl,rfl⟩,fun z=>absurd rfl z⟩,trivial⟩;have:cF d k (.row d sz s0 e) c=sz:=if_pos ⟨rfl,z.1⟩;exact this▸hc.2
 rw[qD]at h1 ⊢;refine⟨⟨h1.1,key _ h1.2⟩,zG ?_ key a h2⟩;exact⟨fun J q=>(vP q).elim,BU (x:=[.row d sz (IS k) (.ag k)]) ⟨fun J q=>(vP q).elim,trivial⟩ b⟩
theorem DF(hn:¬(d'=d/\j=k))(hs:(s0=IS j/\e'=e)\/(frees j s0/\e'=.st j))(h1:wg d k (a++.row d' sz s0 e::b) 0)(h2:inv d k (a++.row d' sz s0 e::b)):
  wg d k (a++.row d' sz (IS j) e'::(uD d' (IS j) b++[.row d' sz (IS j) (.ag j)])) 0/\inv d k (a++.row d' sz (IS j) e'::(uD d' (IS j) b++[.row d' sz (IS j) (.ag j)])):=by
 have nk:d'=d->IS j≠IS k:=fun p q=>hn ⟨p,Uc q⟩;have s0k:d'=d->s0≠IS k:=fun p q=>hs.elim (fun x=>nk p (x.1.symm.trans q)) fun x=>vP (q▸x.1);have st:d'=d->Enc.st j≠.st k/\Enc.st j≠.ag k:=fun p=>⟨fun z=>by cases z;exact hn ⟨p,rfl⟩,nofun⟩;have last:∀c,wg d k [.row d' sz (IS j) (.ag j)] c:=fun c=>⟨fun p=>⟨fun q=>absurd q (nk p),fun J=>⟨nofun,fun z=>by cases z;exact hn ⟨p,rfl⟩⟩⟩,trivial⟩;have key:∀c,wg d k (.row d' sz s0 e::b) c->wg d k (.row d' sz (IS j) e'::(uD d' (IS j) b++[.row d' sz (IS j) (.ag j)])) c:=fun c hc=>by refine⟨fun p=>⟨fun q=>absurd q (nk p),fun J=>hs.elim (fun z=>z.2▸(hc.1 p).2 (s0k p)) fun z=>z.2▸st p⟩,?_⟩;show wg d k _ (if d'=d/\IS j=IS k then sz else c);rw[if_neg fun z=>nk z.1 z.2,qD];have:cF d k (.row d' sz s0 e) c=c:=if_neg fun z=>s0k z.1 z.2;exact⟨BS.mpr (this▸hc.2),last _⟩
 rw[qD]at h1 ⊢;refine⟨⟨h1.1,key _ h1.2⟩,zG ?_ key a h2⟩;exact⟨fun p q=>(vP q).elim,zD (b:=[.row d' sz (IS j) (.ag j)]) ⟨fun p q=>(vP q).elim,trivial⟩ last (OT (Ba a h2).2)⟩
end
end
noncomputable def encM(d:Bool):Int:=if d then 157 else 143
def enc:Op->List Int
 | .mv d e sz=>match e with
  | .pl=>(encM d+qo sz - 1)::be (qo sz) sz
  | .st k=>(encM d+qo sz - 1+(if k then 10 else 5))::be (qo sz) sz
  | .ag k=>[encM d+if k then 9 else 4]
 | .push=>[141]
 | .pop=>[142]
 | .Iz n=>[171+n]
 | .uf n=>[243,n]++be 4 0++be 4 655360++be 4 655360++[0,2,102,96+n]
 | .chr c=>if 128<=c then[128,c]else[c]
 | .uk m h w=>(if m then 132 else 137)::(be 4 h++be 4 w)
 | .uC l=>239::(l.length:Int)::l
def bytes(l:List Op):List Int:=l.flatMap enc
theorem qI(a b:List Op):bytes (a++b)=bytes a++bytes b:=k7 ..
theorem tY(a:Op)(b:List Op):bytes (a::b)=enc a++bytes b:=List.flatMap_cons ..
theorem Bb:bytes []=[]:=rfl
theorem uM(a:Op):bytes [a]=enc a:=aO _
def pL(a:List Cell):Nat:=(bytes (pN a)).length
theorem LR:pL []=0:=rfl
theorem rU(a b:List Cell):pL (a++b)=pL a+pL b:=(congrArg dj ((congrArg bytes (ql a b)).trans (qI _ _))).trans aa
theorem rd(x:Cell)(a:List Cell):pL (x::a)=(bytes x.ops).length+pL a:=(congrArg dj (qI x.ops (pN a))).trans aa
def W{α:Type}(f:Nat->Cell->List α)(l:List Cell):Nat->List α:=bN (motive:=fun J=>Nat->List α) (fun J=>[]) (fun x J ih off=>f off x++ih (off+(bytes x.ops).length)) l
theorem DG(a b:List Cell):∀off,W f (a++b) off=W f a off++W f b (off+pL a):=by
 induction a with
 |nil=>exact fun J=>rfl
 |cons x a ih=>exact fun off=>(congrArg (f off x++·) ((ih _).trans (congrArg (W f a _++W f b ·) ((aQ off _ _).trans (congrArg (off+·) (rd x a).symm))))).trans (ax ..).symm
theorem LS{h:α->β}(e:∀off x,f off (g x)=(f' off x).map h)(o:∀x,(g x).ops=x.ops)(l:List Cell):∀off,W f (l.map g) off=(W f' l off).map h:=by
 induction l with
 |nil=>exact fun J=>rfl
 |cons x l ih=>exact fun off=>(congr (congrArg HAppend.hAppend (e off x)) ((congrArg (fun y=>W f (l.map g) (off+(bytes y).length)) (o x)).trans (ih _))).trans aG.symm
noncomputable def rw1(d:Bool)(off:Nat)(x:Cell):List Row:=match x with
 | .row d' sz s _=>if d'=d then[⟨sz,off,s⟩]else[]
 |_=>[]
def rowsOf(d:Bool)(off:Nat)(l:List Cell):List Row:=W (rw1 d) l off
theorem qg(a b:List Cell)(off:Nat):rowsOf d off (a++b)=rowsOf d off a++rowsOf d (off+pL a) b:=DG a b off
theorem sM:rowsOf d off (.row d sz s e::b)=⟨sz,off,s⟩::rowsOf d (off+(bytes (Cell.row d sz s e).ops).length) b:=congrArg (· ++_) (if_pos rfl)
theorem vY(h:d'≠d):rowsOf d off (.row d' sz s e::b)=rowsOf d (off+(bytes (Cell.row d' sz s e).ops).length) b:=congrArg (· ++_) (if_neg h)
theorem yI(x:Cell):(LM d s x).ops=x.ops:=by induction x using Cell.casesOn<;>rfl
theorem zH(b:List Cell):pN (uD d s b)=pN b:=by
 induction b with
 |nil=>rfl
 |cons x b ih=>show(LM d s x).ops++pN (uD d s b)=x.ops++pN b;rw[ih,yI]
theorem LU(b:List Cell):pL (uD d s b)=pL b:=congrArg (fun x=>(bytes x).length) (zH b)
theorem Fq(b:List Cell)(off:Nat):rowsOf d off (uD d s b)=(rowsOf d off b).map fun r=>BO (rA r.st s) r:=LS (fun off x=>by
  induction x using Cell.casesOn with
  |row d' sz s' e=>
   show(if d'=d then[Row.mk sz off (if d'=d then rA s' s else s')]else[])=gP _ (if d'=d then[Row.mk sz off s']else[])
   by_cases z:d'=d
   ·rw[if_pos z,if_pos z,if_pos z];rfl
   ·rw[if_neg z,if_neg z];rfl
  |_=>rfl) yI b off
theorem AL(h:d'≠d)(b:List Cell)(off:Nat):rowsOf d off (uD d' s b)=rowsOf d off b:=(LS (h:=id) (fun off x=>by
  induction x using Cell.casesOn with
  |row d2 sz s' e=>
   show(if d2=d then[Row.mk sz off (if d2=d' then rA s' s else s')]else[])=gP _ (if d2=d then[Row.mk sz off s']else[])
   by_cases z:d2=d
   ·rw[if_pos z,if_pos z,if_neg fun y=>h (y.symm.trans z)];rfl
   ·rw[if_neg z,if_neg z];rfl
  |_=>rfl) yI b off).trans (j4 _)
noncomputable def bg1(off:Nat)(x:Cell):List Nat:=match x with
 | .push=>[off+1]
 |_=>[]
def pX(off:Nat)(l:List Cell):List Nat:=W bg1 l off
theorem rg(a b:List Cell)(off:Nat):pX off (a++b)=pX off a++pX (off+pL a) b:=DG a b off
theorem Fs(b:List Cell)(off:Nat):pX off (uD d s b)=pX off b:=(LS (h:=id) (fun off x=>by induction x using Cell.casesOn<;>rfl) yI b off).trans (j4 _)
noncomputable def wf1(x:Cell):Prop:=match x with
 | .row _ _ s e=>(s<4->e=.pl)/\s<=5
 |_=>True
def Jg(l:List Cell):Prop:=bN (motive:=fun J=>Prop) True (fun x J ih=>wf1 x/\ih) l
theorem sN:Jg (a++b)↔Jg a/\Jg b:=by
 induction a with
 |nil=>exact⟨fun h=>⟨trivial,h⟩,fun h=>h.2⟩
 |cons x a ih=>exact(and_congr Iff.rfl ih).trans and_assoc.symm
theorem GV(h:s<=5):(rA s u<4->s<4)/\rA s u<=5:=by
 refine LN (p:=fun s=>s<=5->(rA s u<4->s<4)/\rA s u<=5) (fun s z J=>⟨fun J=>dU z,?_⟩) (fun n h=>by rw[LO];exact⟨id,h⟩) s h;unfold rA;split
 ·exact(by decide:∀s<3,(if s=0 then 2 else if s=1 then 3 else s)<=5) s z
 ·exact(by decide:∀s<3,(if s=0 then 1 else if s=2 then 3 else s)<=5) s z
theorem OU:Jg b->Jg (uD d u b):=by
 induction b with
 |nil=>exact id
 |cons x b ih=>
  refine fun h=>⟨?_,ih h.2⟩;induction x using Cell.casesOn with
  |row d2 sz s e=>
   show(((if d2=d then rA s u else s)<4->e=.pl)/\(if d2=d then rA s u else s)<=5);split
   ·exact⟨fun z=>h.1.1 ((GV h.1.2).1 z),(GV h.1.2).2⟩
   ·exact h.1
  |_=>exact trivial
inductive Qw(d:Bool)(off i:Nat)(r:Row)(cells:List Cell):Prop where|mk (a:List Cell) (e:Enc) (b:List Cell) (c:cells=a++.row d r.sz r.st e::b) (l:(rowsOf d off a).length=i) (s:r.sp=off+pL a)
theorem xm:∀{off i:Nat},(rowsOf d off cells)[i]? =some r->Qw d off i r cells:=by
 induction cells with
 |nil=>exact fun h=>nomatch h
 |cons x c ih=>
  intro off i h;have skip:rw1 d off x=[]->Qw d off i r (x::c):=fun z=>by have e:∀l,rowsOf d off (x::l)=rowsOf d (off+(bytes x.ops).length) l:=fun l=>congrArg (· ++_) z;obtain⟨a,e',b,h1,h2,h3⟩:=ih (e c▸h);exact⟨x::a,e',b,congrArg (x::·) h1,(congrArg dj (e a)).trans h2,h3.trans ((aQ ..).trans (congrArg (off+·) (rd x a).symm))⟩
  induction x using Cell.casesOn with
  |row d' sz s e=>
   by_cases z:d'=d
   ·subst z;rw[sM]at h;induction i using bz with
    |zero=>obtain rfl:=au h;exact⟨[],e,c,rfl,rfl,rfl⟩
    |succ i=>obtain⟨a,e',b,h1,h2,h3⟩:=ih h;exact⟨.row d' sz s e::a,e',b,congrArg _ h1,(congrArg dj sM).trans (congrArg (· +1) h2),h3.trans ((aQ ..).trans (congrArg (off+·) (rd (.row d' sz s e) a).symm))⟩
   ·exact skip (if_neg z)
  |_=>exact skip rfl
theorem OV:∀{off:Nat},(∀r∈rowsOf d off b,r.st≠IS k)->OP d k b:=by
 induction b with
 |nil=>exact fun J J=>rfl
 |cons x b ih=>
  intro off h c;have r:=ih fun r hr=>h r (fB _ hr);induction x using Cell.casesOn with
  |row d' sz s e=>exact(congrArg (fin d k b) (if_neg fun z=>h ⟨sz,off,s⟩ (eM _ (by rw[show rw1 d off (.row d' sz s e)=[⟨sz,off,s⟩]from if_pos z.1];exact .head _)) z.2)).trans (r c)
  |_=>exact r c
set_option tactic.hygienic true in
theorem IA:∀{n:Nat} {seen:Int},vO sz rs n seen=some (i,s,pt)->(seen≠1->∀r∈rs.drop n,r.st≠4)->(seen≠2->∀r∈rs.drop n,r.st≠5)->(seen=0\/seen=1\/seen=2)->
  ∃r k,rs[i]? =some r/\s=IS k/\r.sz=sz/\(if pt then frees k r.st else r.st=IS k)/\∀r∈rs.drop (i+1),r.st≠IS k:=by
 intro x_;induction x_ with
 |zero=>intro _ h _ _ _;exact nomatch h
 |succ n ih=>
  intro seen h i1 i2 i3;cases hr:rs[n]? with
  |none=>exact Z.nS ((A6 hr).symm.trans h)
  |some r=>
   rw[x7 hr,Fj]at h;have hd:rs.drop n=r::rs.drop (n+1):=by rw[dK (bK.mp hr).1,(bK.mp hr).2]
   split at h
   ·rename_i hz;split at h
    ·rename_i c;cases h;rcases c with⟨c1,c2⟩|⟨c1,c2⟩
     ·exact⟨r,false,hr,c1,hz,c1,i1 c2⟩
     ·exact⟨r,true,hr,c1,hz,c1,i2 c2⟩
    ·rename_i c;split at h
     ·rename_i c1;cases h;exact⟨r,false,hr,rfl,hz,c1.1,i1 c1.2⟩
     ·split at h
      ·rename_i c1;cases h;exact⟨r,true,hr,rfl,hz,c1.1,i2 c1.2⟩
      ·refine ih h (fun z=>?_) (fun z=>?_) i3<;>rw[hd]<;>intro r' Ue<;>rcases aA.mp Ue with e|e
       ·subst e;exact fun q=>c (.inl ⟨q,z⟩)
       ·exact i1 z r' e
       ·subst e;exact fun q=>c (.inr ⟨q,z⟩)
       ·exact i2 z r' e
   ·split at h
    ·rename_i c;split at h
     ·exact Z.nS h
     ·rename_i c2;refine ih h (fun z=>absurd rfl z) (fun _=>?_) (.inr (.inl rfl));rw[hd];intro r' Ue;rcases aA.mp Ue with e|e
      ·subst e;exact fun zz=>Z.o 0x110011055138741387200f [] [_] rfl c zz
      ·exact i2 c2 r' e
    ·rename_i c;split at h
     ·rename_i c1;split at h
      ·exact Z.nS h
      ·rename_i c2;refine ih h (fun _=>?_) (fun z=>absurd rfl z) (.inr (.inr rfl));rw[hd];intro r' Ue;rcases aA.mp Ue with e|e
       ·subst e;exact c
       ·exact i1 c2 r' e
     ·rename_i c1;refine ih h (fun z=>?_) (fun z=>?_) i3<;>rw[hd]<;>intro r' Ue<;>rcases aA.mp Ue with e|e
      ·subst e;exact c
      ·exact i1 z r' e
      ·subst e;exact c1
      ·exact i2 z r' e
end Mine.Internal
namespace Mine.Internal
open PySem
noncomputable def GW:Op->Op
 | .mv d _ sz=>.mv d .pl sz
 |o=>o
inductive Ft(d:Bool)(sz:Int)(off:Nat)(cells new:List Cell)(i s:Nat)(pt:Bool)(sp:Nat):Prop where
 |mk (a b:List Cell) (e e':Enc) (k:Bool) (s0:Nat) (e1:cells=a++.row d sz s0 e::b) (e2:new=a++.row d sz (IS k) e'::(uD d (IS k) b++[.row d sz (IS k) (.ag k)])) (e3:s=IS k) (hb:OP d k b)
  (hc:(s0=IS k/\e'=e/\pt=false)\/(frees k s0/\e=.pl/\e'=.st k/\pt=true)) (hl:(rowsOf d off a).length=i) (hp:sp=off+pL a)
theorem LV{e e':Enc}(hc:(P/\e'=e/\pt=false)\/(Q/\e=.pl/\e'=.st k/\pt=true)):e'=e\/(e=.pl/\e'=.st k):=hc.elim (fun z=>.inl z.2.1) fun z=>.inr ⟨z.2.1,z.2.2.1⟩
theorem IB(w:Jg cells)(h:vO sz (rowsOf d off cells) (rowsOf d off cells).length 0=some (i,s,pt))(hr:(rowsOf d off cells)[i]? =some r):∃new,Ft d sz off cells new i s pt r.sp:=by
 obtain⟨r',k,h1,h2,h3,h4,h5⟩:=IA h (fun J=>by simp) (fun J=>by simp) (.inl rfl);rw[hr]at h1;obtain rfl:=au h1;obtain⟨a,e,b,e1,e2,e3⟩:=xm hr;repeat first|clear sz|clear i|clear s|clear cells|clear h|clear hr|clear r'|clear h1
 subst h3;have hb:OP d k b:=by refine OV (off:=off+pL a+(bytes (Cell.row d r.sz r.st e).ops).length) fun x hx=>h5 x ?_;rw[e1,qg,jA,gI (by exact Z.o 0x1111398711139185 [] [_,_] rfl e2)];rw[sM,e2,cV];exact hx
 rw[e1,sN]at w;induction pt using aX with
 |false=>exact⟨_,a,b,e,e,k,r.st,e1,rfl,h2,hb,.inl ⟨h4,rfl,rfl⟩,e2,e3⟩
 |true=>have:r.st<4:=dU (zE (k:=k) h4);exact⟨_,a,b,e,.st k,k,r.st,e1,rfl,h2,hb,.inr ⟨h4,w.2.1.1 this,rfl,rfl⟩,e2,e3⟩
section
variable{d:Bool}{sz:Int}{off i s sp:Nat}{cells new:List Cell}{pt:Bool}
theorem an8(h:e'=e\/(e=.pl/\e'=.st k)):(bytes (Cell.row d sz s e').ops).length=(bytes (Cell.row d sz s e).ops).length:=by
 rcases h with h|⟨h,h'⟩
 ·rw[h]
 ·refine h▸?_;refine h'▸?_;simp[Cell.ops,uM,enc]
theorem LW(h:e'=e\/(e=.pl/\e'=.st k)):(bytes (Cell.row d sz s' e').ops).length=(bytes (Cell.row d sz s e).ops).length:=by refine(show(Cell.row d sz s' e').ops=(Cell.row d sz s e').ops from rfl)▸?_;exact an8 h
theorem Ft.wg(h:Ft d sz off cells new i s pt sp)(h1:wg d' k' cells 0)(h2:inv d' k' cells):wg d' k' new 0/\inv d' k' new:=by
 obtain⟨a,b,e,e',k,s0,e1,e2,e3,hb,hc,_,_⟩:=h;subst e1 e2;have hs:(s0=IS k/\e'=e)\/(frees k s0/\e'=.st k):=hc.elim (fun z=>.inl ⟨z.1,z.2.1⟩) fun z=>.inr ⟨z.1,z.2.2.1⟩;by_cases hk:d=d'/\k=k'
 ·obtain⟨rfl,rfl⟩:=hk;exact Fp hs hb h1 h2
 ·exact DF hk hs h1 h2
theorem Ft.pX(h:Ft d sz off cells new i s pt sp)(Ug:Nat):pX Ug new=pX Ug cells:=by obtain⟨a,b,e,e',k,s0,e1,e2,e3,hb,hc,_,_⟩:=h;subst e1 e2;rw[rg,rg];refine congrArg (Mine.Internal.pX Ug a++·) ?_;show Mine.Internal.pX (_+_) (uD d (IS k) b++[_])=Mine.Internal.pX (_+_) b;rw[LW (s:=s0) (LV hc),rg,Fs];exact aO _
theorem Ft.Jg(h:Ft d sz off cells new i s pt sp)(w:Jg cells):Jg new:=by
 obtain⟨a,b,e,e',k,s0,e1,e2,e3,hb,hc,_,_⟩:=h;repeat first|clear h|clear a|clear b|clear e|clear e'|clear s0|clear e3|clear hb|clear hc
 subst e1 e2;rw[sN]at w ⊢;have i5:¬IS k<4/\IS k<=5:=by unfold IS;induction k using aX<;>decide
 exact⟨w.1,⟨fun z=>absurd z i5.1,i5.2⟩,sN.mpr ⟨OU w.2.2,⟨fun z=>absurd z i5.1,i5.2⟩,trivial⟩⟩
theorem Ft.GW(h:Ft d sz off cells new i s pt sp):(pN new).map GW=(pN cells).map GW++[.mv d .pl sz]:=by obtain⟨a,b,e,e',k,s0,e1,e2,e3,hb,hc,_,_⟩:=h;subst e1 e2;simp[ql,A9,DE,zH,Cell.ops,Mine.Internal.GW]
theorem Ft.other(h:Ft d sz off cells new i s pt sp)(hd:d'≠d):rowsOf d' off new=rowsOf d' off cells:=by obtain⟨a,b,e,e',k,s0,e1,e2,e3,hb,hc,_,_⟩:=h;subst e1 e2;rw[qg,qg,vY (Ne.symm hd),vY (Ne.symm hd),qg,AL (Ne.symm hd),vY (Ne.symm hd),LW (s:=s0) (LV hc)];exact congrArg (_++·) (aO _)
theorem Ft.rows(h:Ft d sz off cells new i s pt sp)(XR:ra.map cf=rowsOf d off cells)(a:Addr):(Iv ra i s++[(a,Row.mk sz (off+pL cells) s)]).map cf=rowsOf d off new:=by
 obtain⟨ca,b,e,e',k,s0,e1,e2,e3,hb,hc,h6,h7⟩:=h;repeat first|clear h|clear a|clear e'|clear k|clear hb|clear h7
 subst e1 e2;rw[qg,sM]at XR ⊢;rw[qg,sM];obtain⟨x,hx⟩:∃x,ra[i]? =some x:=by have hl:=congrArg dj XR;simp only[ah,aa,a8]at hl;exact⟨ra[i],bc (Z.o 0x110110115113b1a1978a72986 [] [_,_,_,_] rfl h6 hl)⟩
 have hx2:x.2=⟨sz,off+pL ca,s0⟩:=by
  have:(ra.map cf)[i]? =some x.2:=by simp[hx]
  rw[XR,fO (by exact Z.o 0x111139871985 [] [_,_] rfl h6),h6,gh]at this;simpa using this.symm
 have ht:(ra.take i).map cf=rowsOf d off ca:=by rw[nN,XR,<-h6,mZ]
 have hdr:(ra.drop (i+1)).map cf=rowsOf d (off+pL ca+(bytes (Cell.row d sz s0 e).ops).length) b:=by rw[nM,XR,jA,gI (by exact Z.o 0x1111398711139185 [] [_,_] rfl h6),h6,cV];rfl
 have hdm:gP cf ((ra.drop (i+1)).map fun x=>(x.1,BO (rA x.2.st s) x.2))=(rowsOf d (off+pL ca+(Mine.Internal.bytes (Cell.row d sz s0 e).ops).length) b).map fun r=>BO (rA r.st s) r:=by rw[dP,<-hdr,dP];rfl
 subst e3;rw[zC hx];simp only[aG,bL,jB,hdm,ht,hx2,ax,bT];rw[Fq,LW (s:=s0) (LV hc),LU,rU,rd];simp only[BO,aQ];rfl
theorem Ft.bytes(h:Ft d sz off cells new i s pt sp)(ho:hdr.length=off):hdr++bytes (pN new)=(if pt then patch (hdr++Mine.Internal.bytes (pN cells)) sp s else hdr++Mine.Internal.bytes (pN cells))++[encM d+if s=4 then 4 else 9]:=by
 obtain⟨a,b,e,e',k,s0,e1,e2,e3,hb,hc,h6,h7⟩:=h;repeat first|clear h|clear e|clear e'|clear s0|clear hb|clear h6
 subst e1 e2;have ek5:(if s=4 then(5:Int)else 10)=if k then 10 else 5:=by rw[e3];unfold IS;induction k using aX<;>rfl
 simp only[ql,A9,DE,zH,Cell.ops,qI,tY,aO,(show(if s=4 then(4:Int)else 9)=if k then 9 else 4 by rw[e3];unfold IS;induction k using aX<;>rfl),List.singleton_append];rcases hc with⟨c1,c2,c3⟩|⟨c1,c2,c3,c4⟩
 ·refine c2▸?_;refine c3▸?_;simp[enc,Bb]
 ·rw[c2,c3,c4];have hl:sp=(hdr++Mine.Internal.bytes (pN a)).length:=by rw[h7,aa,ho];rfl
  refine(if_pos rfl)▸?_;have:patch (hdr++(Mine.Internal.bytes (pN a)++(enc (.mv d .pl sz)++Mine.Internal.bytes (pN b)))) sp s=hdr++(Mine.Internal.bytes (pN a)++(enc (.mv d (.st k) sz)++Mine.Internal.bytes (pN b))):=by unfold patch;rw[<-ax,hl];dsimp only[enc,bT,List.set_append_right _ _ (aF _),gh,List.set_cons_zero];rw[ek5];simp[cD]
  rw[this];simp[enc,Bb]
end
local macro_rules | `(tactic| trivial) => `(tactic| first | assumption | exact up_eq | (refine pj (by first | assumption | (refine Ne.symm ?_; assumption)) ?_; trivial))
local macro_rules | `(tactic| simp_arith [$xs,*]) => do
 let mut a : Array (Lean.TSyntax [`Lean.Parser.Tactic.simpErase, `Lean.Parser.Tactic.simpLemma]) := #[]
 for n in "ad3 ad4 ad5 Bv Gj Nk Rh ZJ ad7 Np Nq Ri Ez Rm ad8 ad9 V2 ZK ab1 Nt JP ZL ZM ae0 ae1 ZN ZO ae2 ae3 ZP ae4 ae5 ae6 U1 JQ V3 V5 V6 ZQ ZR U2 ZS ZT ZU ZV ae7 ae9 af0 af1 af2 V7 V8 sY aq4 aq5 Nat.reduceAdd Nat.reduceSub Nat.reduceMul Int.reduceNeg Int.reduceAdd Int.reduceSub Int.reduceMul Int.reducePow Int.reduceToNat ax6 ax7 av0 av1 av2 av3 List.reverse_nil List.nil_append List.cons_append List.length_cons List.length_nil au8 au9 List.replicate_succ List.replicate_zero an2 an3 an4 ak0 aq6 aq7 aq8 av9 ak1 aq9 ar0 aw0 ar1 aw1 ak2 ar2 ar3 ar4 aw2 ak3 ak4 ar5 ar6 ar7 aw3 ar8 ak5 ar9 ak6 ak7 as0 as1 as2 as3 as4 as5 aw4 aw5 as6 aw6 as7 tB_ ak8 as8 as9 at1 aw7 tR_ aV_ ak9 al0 at3 aS_ at5 aw8 at7 at8 at9 au0 aw9 au1 au2 au3 ax0 ax1 au4 ax2 al1 al3 au5 Z9 al4 Fh al5 aa0 aa1 aa2 al6 aa3 al7 al8 al9 am0 am1 am2 am3 XC au6 aa4 am4 am5 am6 aa5 ax3 ax4 aa6 aa7 am7 ax5 aa8 am8 XD aa9 am9 an0 an1 XF Qu qP au7 ab0".splitOn " " do
  let s ← `(Lean.Parser.Tactic.simpLemma| $(Lean.mkIdent n.toName):ident)
  a := a.push ⟨s.raw⟩
 a := a ++ xs.getElems.map fun x => ⟨x.raw⟩
 `(tactic| dsimp only [$a,*])
local macro_rules | `(tactic| simp_arith! [$xs,*]) => do
 let mut t ← `(tactic| simp_arith [$xs,*])
 let mut i := ""
 for n in "ur.own tr ur.cls trr an5 rl yM.mk tl xC.user trr xC.lst td xC.uH tr vr.tup drr An d tD d".splitOn " " do
  if i == "" then i := n else
   let mut s ← `(tactic| with_reducible apply $(Lean.mkIdent i.toName))
   for c in n.toList do
    let x ← if c == 't' then `(tactic| trivial) else if c == 'r' then `(tactic| rfl) else if c == 'd' then `(tactic| decide) else `(tactic| exact Nat.le_of_ble_eq_true rfl)
    s ← `(tactic| ($s:tactic; $x:tactic))
   t ← `(tactic| first | $t:tactic | $s:tactic)
   i := ""
 t ← `(tactic| first | $t:tactic | refine ⟨_, Gb.tup, rfl, ?_⟩ | refine ⟨_, rfl, ?_⟩ | refine ⟨rfl, ?_⟩)
 for n in "qy.eqI qy.neI qy.lt qy.le qy.gt qy.ge qy.ac2 qy.ac3 qy.ac4 qy.ac5 qy.VM qy.VN qy.VO qy.VP brT Lu rI.bool rI.none rI.int tw.add tw.sub xD.add qt.ac8 qt.ac9 qt.isS qt.isT qt.isB qt.abs qt.max2 qt.ac7".splitOn " " do
  t ← `(tactic| first | $t:tactic | with_reducible refine $(Lean.mkIdent n.toName) ?_)
 `(tactic| repeat $t:tactic)
structure PA where
 pg:Addr
 oc:Addr
 fd:Addr
 m:Bool->Addr
 r:Bool->Addr
 D:Int
structure PF where
 h:Int
 v:Int
 fn:Int
 dp:Int
noncomputable def LX(A:PA)(F:PF):O:=.inst 553 [(39,.ref A.oc),(18,.ref A.fd),(11,.int A.D),(24,.int F.h),(69,.int F.v),(17,.int F.fn),(0,.ref (A.m false)),(14,.ref (A.m true)),(10,.int F.dp)]
noncomputable abbrev Es:=List (Int×Addr)
noncomputable def wL(es:Es):List (Int×V):=es.map fun e=>(e.1,.ref e.2)
noncomputable def wj(A:PA)(rs:Bool->Rows)(d:Bool):List Addr:=A.m d::A.r d::(rs d).map ar
def DH(A:PA)(rs:Bool->Rows)(b:Addr):Prop:=b=A.pg\/b=A.oc\/b=A.fd\/∃d,b∈wj A rs d
structure vx(H0 H:MH)(A:PA)(F:PF)(oct:List Int)(es:Es)(rs:Bool->Rows):Prop where
 old:∀b o,H0 b=some o->H b=some o
 new:∀b,DH A rs b->H0 b=none
 pg:H A.pg=some (LX A F)
 oc:H A.oc=some (.list (iL oct))
 fd:∃ep,H A.fd=some (.dict (wL es) ep)
 mv:∀d,ti H (A.m d) (A.r d) (encM d) (rs d)
 d1:A.pg≠A.oc/\A.pg≠A.fd/\A.oc≠A.fd
 d2:∀d,A.pg∉wj A rs d/\A.oc∉wj A rs d/\A.fd∉wj A rs d
 d3:∀d d' x,d≠d'->x∈wj A rs d->x∉wj A rs d'
section
variable{H0 H H':MH}{A:PA}{F F':PF}{oct Fu:List Int}{es tK:Es}{rs:Bool->Rows}
theorem vx.there(h:vx H0 H A F oct es rs)(hb:DH A rs b):∃o,H b=some o:=by
 rcases hb with e|e|e|⟨d,e⟩
 ·exact⟨_,e▸h.pg⟩
 ·exact⟨_,e▸h.oc⟩
 ·obtain⟨ep,z⟩:=h.fd;exact⟨_,e▸z⟩
 ·rcases aA.mp e with e|e
  ·exact⟨_,e▸(h.mv d).o⟩
  ·rcases aA.mp e with e|e
   ·exact⟨_,e▸(h.mv d).l⟩
   ·obtain⟨y,XS⟩:=aY.mp e;exact⟨_,XS.2▸(h.mv d).r y XS.1⟩
theorem vx.out(h:vx H0 H A F oct es rs)(e:H0 b=some o):¬DH A rs b:=fun z=>by rw[h.new b z]at e;exact Z.nS e
theorem ti.keep{r:Rows}(h:ti H m mr p r)(k:∀b o,b∈m::mr::r.map ar->H b=some o->H' b=some o):ti H' m mr p r:=
 ⟨k _ _ (.head _) h.o,k _ _ (.tail _ (.head _)) h.l,fun y hy=>k _ _ (.tail _ (.tail _ (aY.mpr ⟨y,hy,rfl⟩))) (h.r y hy),h.nd⟩
theorem vx.change(h:vx H0 H A F oct es rs)(k:∀b o,b≠A.pg->b≠A.oc->b≠A.fd->H b=some o->H' b=some o)(k1:H' A.pg=some (LX A F'))(k2:H' A.oc=some (.list (iL Fu)))(k3:∃ep,H' A.fd=some (.dict (wL tK) ep)):vx H0 H' A F' Fu tK rs:=
 ⟨fun b o e=>k b o (fun z=>h.out e (.inl z)) (fun z=>h.out e (.inr (.inl z))) (fun z=>h.out e (.inr (.inr (.inl z)))) (h.old b o e),h.new,k1,k2,k3,
  fun d=>(h.mv d).keep fun b o hb=>k b o (fun z=>(h.d2 d).1 (z▸hb)) (fun z=>(h.d2 d).2.1 (z▸hb)) fun z=>(h.d2 d).2.2 (z▸hb),h.d1,h.d2,h.d3⟩
theorem vx.Bc(h:vx H0 H A F oct es rs)(F':PF):vx H0 (H.upd A.pg (LX A F')) A F' oct es rs:=
 h.change (fun b o b1 J J=>pj b1) up_eq (pj h.d1.1.symm h.oc) (let ⟨ep,e⟩:=h.fd;⟨ep,pj h.d1.2.1.symm e⟩)
theorem vx.DI(h:vx H0 H A F oct es rs)(Fu:List Int):vx H0 (H.upd A.oc (.list (iL Fu))) A F Fu es rs:=
 h.change (fun b o J b1 J=>pj b1) (pj h.d1.1 h.pg) up_eq (let ⟨ep,e⟩:=h.fd;⟨ep,pj h.d1.2.2.symm e⟩)
theorem vx.more(h:vx H0 H A F oct es rs)(k:∀b o,H b=some o->H' b=some o):vx H0 H' A F oct es rs:=
 h.change (fun b o J J J=>k b o) (k _ _ h.pg) (k _ _ h.oc) (let ⟨ep,e⟩:=h.fd;⟨ep,k _ _ e⟩)
open Classical in
noncomputable def Qx(A:PA)(rs:Bool->Rows)(H:MH):MH:=fun b=>if DH A rs b then none else H b
theorem GX(hb:¬DH A rs b)(e:H b=some o):Qx A rs H b=some o:=by unfold Qx;refine(if_neg hb)▸?_;exact e
theorem vx.Qx(h:vx H0 H A F oct es rs):vx (Qx A rs H) H A F oct es rs:=
 ⟨fun b o e=>by
  unfold Mine.Internal.Qx at e
  split at e
  ·exact Z.nS e
  ·exact e,fun b hb=>by unfold Mine.Internal.Qx;rw[if_pos hb],h.pg,h.oc,h.fd,h.mv,h.d1,h.d2,h.d3⟩
theorem vx.weak(h:vx H1 H A F oct es rs)(k:∀b o,H0 b=some o->H1 b=some o):vx H0 H A F oct es rs:=
 ⟨fun b o e=>h.old b o (k b o e),fun b hb=>by
  cases e:H0 b with
  |none=>rfl
  |some o=>exact absurd hb (h.out (k b o e)),h.pg,h.oc,h.fd,h.mv,h.d1,h.d2,h.d3⟩
noncomputable def setB{α:Type}(f:Bool->α)(k:Bool)(x:α):Bool->α:=fun d=>if d=k then x else f d
theorem vx.moved(h:vx H0 H A F oct es rs)(ha:H a=none)(e1:r'.map ar=(rs k).map ar++[a])(m':ti H' (A.m k) (A.r k) (encM k) r')(eo:H' A.oc=some (.list (iL Fu)))(fx:Fix A.oc (A.r k) (rs k) H H'):vx H0 H' A F Fu es (setB rs k r'):=by
 have na:¬DH A rs a:=fun z=>by obtain⟨o,e⟩:=h.there z;rw[ha]at e;exact Z.nS e
 have hk:setB rs k r' k=r':=if_pos rfl;have ho:∀{d b},b∈wj A (setB rs k r') d->b∈wj A rs d\/(d=k/\b=a):=fun{d b} hb=>by
  by_cases z:d=k
  ·subst z;unfold wj at hb ⊢;rw[hk,e1,<-bT,<-bT,aM,aI]at hb;exact hb.imp id fun e=>⟨rfl,e⟩
  ·unfold wj at hb;rw[(show∀{d},d≠k->setB rs k r' d=rs d from fun z=>if_neg z) z]at hb;exact .inl hb
 have ho1:∀{b},DH A (setB rs k r') b->DH A rs b\/b=a:=fun hb=>by
  rcases hb with e|e|e|⟨d,e⟩
  ·exact .inl (.inl e)
  ·exact .inl (.inr (.inl e))
  ·exact .inl (.inr (.inr (.inl e)))
  ·exact(ho e).imp (fun z=>.inr (.inr (.inr ⟨d,z⟩))) fun z=>z.2
 have fx2:∀b o,b≠A.oc->b∉wj A rs k->H b=some o->H' b=some o:=fun b o b1 b2=>fx b o b1 (fun z=>b2 (z▸.tail _ (.head _))) fun z=>b2 (.tail _ (.tail _ z));refine⟨fun b o e=>fx2 b o (fun z=>h.out e (.inr (.inl z))) (fun z=>h.out e (.inr (.inr (.inr ⟨k,z⟩)))) (h.old b o e),fun b hb=>?_,fx2 _ _ h.d1.1 (h.d2 k).1 h.pg,eo,let ⟨ep,e⟩:=h.fd;⟨ep,fx2 _ _ h.d1.2.2.symm (h.d2 k).2.2 e⟩,fun d=>?_,h.d1,fun d=>⟨fun z=>?_,fun z=>?_,fun z=>?_⟩,fun d d' x n h1 h2=>?_⟩
 ·rcases ho1 hb with z|z
  ·exact h.new b z
  ·subst z;cases e:H0 b with
   |none=>rfl
   |some o=>rw[h.old b o e]at ha;exact nomatch ha
 ·by_cases z:d=k
  ·subst z;refine hk.symm▸?_;exact m'
  ·rw[(show∀{d},d≠k->setB rs k r' d=rs d from fun z=>if_neg z) z];exact(h.mv d).keep fun b o hb=>fx2 b o (fun q=>(h.d2 d).2.1 (q▸hb)) fun q=>h.d3 d k b z hb q
 ·exact(ho z).elim (h.d2 d).1 fun q=>na (.inl q.2.symm)
 ·exact(ho z).elim (h.d2 d).2.1 fun q=>na (.inr (.inl q.2.symm))
 ·exact(ho z).elim (h.d2 d).2.2 fun q=>na (.inr (.inr (.inl q.2.symm)))
 ·rcases ho h1 with h1|⟨rfl,rfl⟩<;>rcases ho h2 with h2|⟨e,e2⟩
  ·exact h.d3 d d' x n h1 h2
  ·subst e2;exact na (.inr (.inr (.inr ⟨d,h1⟩)))
  ·exact na (.inr (.inr (.inr ⟨d',h2⟩)))
  ·exact n e.symm
end
structure Ao(cells:List Cell):Prop where
 w:Jg cells
 c:∀d k,wg d k cells 0
 i:∀d k,inv d k cells
def Fv(cells:List Cell):List Op:=(pN cells).map GW
structure Mvd(k:Bool)(sz:Int)(cells new:List Cell):Prop where
 ci:Ao new
 op:Fv new=Fv cells++[.mv k .pl sz]
 bg:∀off,pX off new=pX off cells
 ln:pL new<=pL cells+5
def IC(H0 H:MH)(A:PA)(F:PF)(hdr:List Int)(cells:List Cell)(es:Es):Prop:=∃rs,vx H0 H A F (hdr++bytes (pN cells)) es rs/\∀d,(rs d).map cf=rowsOf d hdr.length cells
theorem Bd:∀{cells:List Cell} {off:Nat} {r:Row},r∈rowsOf d off cells->r.sp<off+pL cells:=fun{cells off r} hr=>by
 obtain⟨i,yX⟩:=k5 hr;obtain⟨a,e',b,h1,h2,h3⟩:=xm (bK.mpr ⟨yX.1,yX.2⟩);rw[h1,rU,rd,h3];have:0<(bytes (Cell.row d r.sz r.st e').ops).length:=by
  repeat first|clear d|clear cells|clear off|clear r|clear i|clear yX.1|clear yX.2|clear a|clear b|clear h1|clear h2|clear h3
  induction e' using Enc.casesOn<;>exact cH _
 exact Z.o 0x11112a0361ba191819816 [] [_,_,_,_] rfl this
theorem zI(cells:List Cell):∀(off:Nat),(rowsOf d off cells).length<=pL cells:=by
 induction cells with
 |nil=>exact fun J=>bW _
 |cons x r ih=>
  refine fun off=>ae (cj aa) (ae (dZ ?_ (ih _)) (cj (rd x r).symm));induction x using Cell.casesOn with
  |row d' sz s e=>
   show(if d'=d then[Row.mk sz off s]else[]).length<=_;split
   ·show 0<(bytes [Op.mv d' e sz]).length;induction e using Enc.casesOn<;>exact cH _
   ·exact bW _
  |_=>exact bW _
theorem Ao.snoc(h:Ao cells)(w:Jg b)(c:∀d k c,wg d k b c)(i:∀d k,inv d k b):Ao (cells++b):=
 ⟨sN.mpr ⟨h.w,w⟩,fun d k=>(qD _ _ _).mpr ⟨h.c d k,c d k _⟩,fun d k=>zD (i d k) (c d k) (h.i d k)⟩
theorem XT(k:Bool):0≠IS k:=by induction k using aX<;>decide
theorem Ao.pl(h:Ao cells):Ao (cells++[.row k sz 0 .pl]):=
 h.snoc (b:=[.row k sz 0 .pl]) ⟨⟨fun J=>rfl,by decide⟩,trivial⟩ (fun d k' c=>⟨fun J=>⟨fun z=>absurd z (XT k'),fun J=>⟨nofun,nofun⟩⟩,trivial⟩) fun d k'=>⟨fun J J J=>trivial,trivial⟩
theorem DJ(a b:List Cell):Fv (a++b)=Fv a++Fv b:=by simp[Fv,ql]
section
variable{L:List Fn}{H0 H:MH}{A:PA}{F:PF}{hdr:List Int}{cells:List Cell}{es:Es}
theorem GY(hd:3<=d)(h:IC H0 H A F hdr cells es)(ci:Ao cells)(hl:hdr.length+pL cells+5<=pq)(K:∀H' new,IC H0 H' A F hdr new es->Mvd k sz cells new->Q .none H'):
  pz Th (pB L) d 33 [.ref (A.m k),.ref A.oc,.int sz] H Q E:=by
 obtain⟨rs,h,hr⟩:=h;have hk:=hr k;have lk:(rs k).length=(rowsOf k hdr.length cells).length:=by rw[<-hk,ah]
 have lo:(hdr++bytes (pN cells)).length=hdr.length+pL cells:=aa;have ra:∀{H':MH} {r':Rows} {new:List Cell},vx H0 H' A F (hdr++bytes (pN new)) es (setB rs k r')->r'.map cf=rowsOf k hdr.length new->(∀d,d≠k->rowsOf d hdr.length new=rowsOf d hdr.length cells)->IC H0 H' A F hdr new es:=fun{H' r' new} g g1 g2=>by
  refine⟨_,g,fun d=>?_⟩;unfold setB;split
  ·rename_i z;refine z▸?_;exact g1
  ·rename_i z;rw[g2 d z];exact hr d
 refine OO hd (h.mv k) h.oc (Z.o 0x1101111115bc5c879513ba11539113815 [] [_,_,_,_,_] rfl hl lk (zI (d:=k) cells hdr.length)) (h.d2 k).2.1 (fun x hx=>?_) (lo▸hl) (fun hz H' a ha v1 v2 v3=>?_) fun i s pt x hx hz H' a ha v1 v2 v3=>?_
 ·refine lo▸?_;exact Bd (d:=k) (hk▸(aY.mpr ⟨x,hx,rfl⟩))
 ·refine K H' (cells++[.row k sz 0 .pl]) (ra (r':=rs k++[(a,⟨sz,(hdr++bytes (pN cells)).length,0⟩)]) ?_ ?_ fun d z=>?_) ⟨ci.pl,DJ _ _,fun off=>?_,?_⟩
  ·have e:hdr++bytes (pN (cells++[.row k sz 0 .pl]))=hdr++bytes (pN cells)++((encM k+qo sz - 1)::be (qo sz) sz):=by rw[ql,qI,<-ax];exact congrArg (_++·) (uM _)
   rw[e];exact h.moved ha (by rw[aG];rfl) v1 v2 v3
  ·rw[aG,hk,qg,lo,sM];rfl
  ·rw[qg,vY (Ne.symm z)];exact aO _
  ·rw[rg];exact aO _
  ·rw[rU,rd,LR];have:=(tX sz).2;simp[Cell.ops,uM,enc,pM];exact this
 ·have WC:(rowsOf k hdr.length cells)[i]? =some x.2:=by rw[<-hk,bO,hx];rfl
  rw[hk,lk]at hz;obtain⟨new,hh⟩:=IB ci.w hz WC;have hb:=hh.bytes (hdr:=hdr) rfl;refine K H' new (ra (r':=Iv (rs k) i s++[(a,⟨sz,(hdr++bytes (pN cells)).length,s⟩)]) ?_ ?_ fun d z=>hh.other z) ⟨⟨hh.Jg ci.w,fun d k'=>(hh.wg (ci.c d k') (ci.i d k')).1,fun d k'=>(hh.wg (ci.c d k') (ci.i d k')).2⟩,hh.GW,hh.pX,?_⟩
  ·rw[hb];exact h.moved ha (by rw[aG,DB];rfl) v1 v2 v3
  ·refine lo▸?_;exact hh.rows hk a
  ·have:=congrArg dj hb;rw[aa,aa]at this;have e:(if pt=true then patch (hdr++bytes (pN cells)) x.2.sp s else hdr++bytes (pN cells)).length=hdr.length+pL cells:=by
    split
    ·rw[patch,jQ,lo]
    ·exact lo
   rw[e,List.length_singleton]at this;exact Z.o 0x111131139a118a1715139185 [] [_,_,_] rfl this
end
structure RS where
 h:Int
 v:Int
 fn:Int
 kn:List Int
 rO:List (Int×Int×Nat)
 dp:Int
 rows:List V
def Sm(x:Int):Prop:=(x.natAbs:Int)<=2147483647
noncomputable abbrev FW:=Int->Int->Option Int
inductive qw(fw:FW):Op->RS->RS->Prop where
 |vb {e sz s} (b:Sm sz) (c:Sm (s.h+sz)):qw fw (.mv false e sz) s {s with h:=s.h+sz}
 |down {e sz s} (b:Sm sz) (c:Sm (s.v+sz)):qw fw (.mv true e sz) s {s with v:=s.v+sz}
 |push {s}:qw fw .push s {s with rO:=(s.h,s.v,s.rows.length)::s.rO}
 |pop {s a b n r} (e:s.rO=(a,b,n)::r):qw fw .pop s {s with h:=a,v:=b,rO:=r,dp:=max s.dp (r.length+1)}
 |Iz {n s} (m:n∈s.kn) (b:n=1\/n=2):qw fw (.Iz n) s {s with fn:=n}
 |uf {n s} (m:n∉s.kn) (b:n=1\/n=2):qw fw (.uf n) s {s with kn:=s.kn++[n]}
 |chr {c s w} (b:0<=c/\c<=255) (f:fw s.fn c=some w) (g:Sm (s.h+w)):qw fw (.chr c) s {s with h:=s.h+w,rows:=s.rows++[.tup [.int 0,.int s.h,.int s.v,.int s.fn,.int c]]}
 |uk {h w s} (b:0<h/\Sm h) (c:0<w/\Sm w) (g:Sm (s.h+w)):qw fw (.uk true h w) s {s with h:=s.h+w,rows:=s.rows++[.tup [.int 1,.int s.h,.int s.v,.int h,.int w]]}
 |uC {l s} (b:l.length<256) (c:∀i∈l,0<=i/\i<=255):qw fw (.uC l) s {s with rows:=s.rows++[.tup [.int 2,.int s.h,.int s.v,.bytes l]]}
inductive rB(fw:FW):List Op->RS->RS->Prop where
 |nil {s}:rB fw [] s s
 |cons {o r s s' s''} (h:qw fw o s s') (g:rB fw r s' s''):rB fw (o::r) s s''
section
variable{fw:FW}
theorem rB.append(h:rB fw a s s')(g:rB fw b s' s''):rB fw (a++b) s s'':=by
 induction h with
 |nil=>exact g
 |cons h _ ih=>exact .cons h (ih g)
theorem rB.split:∀{a:List Op} {s:RS},rB fw (a++b) s s''->∃s',rB fw a s s'/\rB fw b s' s'':=by
 intro a;induction a with
 |nil=>exact @fun s h=>⟨s,.nil,h⟩
 |cons o a v8=>
  intro s z2;cases z2 with
  |cons h g=>exact let ⟨s',z7⟩:=v8 g;⟨s',.cons h z7.1,z7.2⟩
theorem qw.GW(h:qw fw o s s'):qw fw (GW o) s s':=by
 induction h using qw.casesOn with
 |vb b c=>exact .vb b c
 |down b c=>exact .down b c
 |push=>exact .push
 |pop e=>exact .pop e
 |Iz m b=>exact .Iz m b
 |uf m b=>exact .uf m b
 |chr b f g=>exact .chr b f g
 |uk b c g=>exact .uk b c g
 |uC b c=>exact .uC b c
theorem qw.BV(h:qw fw (Mine.Internal.GW o) s s'):qw fw o s s':=by
 induction o using Op.casesOn with
 |mv d e sz=>cases h with
  |vb b c=>exact .vb b c
  |down b c=>exact .down b c
 |_=>exact h
theorem rB.GW(h:rB fw l s s'):rB fw (l.map Mine.Internal.GW) s s':=by
 induction h with
 |nil=>exact .nil
 |cons h _ ih=>exact .cons h.GW ih
theorem rB.BV:∀{l:List Op} {s s':RS},rB fw (l.map Mine.Internal.GW) s s'->rB fw l s s':=by
 intro l;cases l with
 |nil=>
  intro w1 w2 z3;cases z3 with
  |nil=>exact .nil
 |cons _ _=>
  intro w4 w5 z6;cases z6 with
  |cons h g=>exact .cons h.BV g.BV
theorem rB.one(h:qw fw o s s'):rB fw [o] s s':=.cons h .nil
theorem rB.mvd(h:rB fw (pN cells) s s')(m:Mvd k sz cells new)(g:qw fw (.mv k .pl sz) s' s''):rB fw (pN new) s s'':=by
 have:rB fw (Fv new) s s'':=by rw[m.op];exact h.GW.append (.one g)
 exact this.BV
theorem rB.snoc(h:rB fw (pN cells) s s')(g:qw fw o s' s''):rB fw (pN (cells++[.seg [o]])) s s'':=by rw[ql];exact h.append (.one g)
end
noncomputable def OW:Op->Bool
 | .mv _ _ _=>false
 | .push=>false
 | .pop=>false
 | .Iz _=>true
 | .uf _=>true
 | .chr _=>true
 | .uk _ _ _=>true
 | .uC _=>true
theorem LY(h:OW o=true)(d k:Bool)(c:Int)(s:List Int):runC d k [o] c s=some (c,s):=by induction o using Op.casesOn<;>first|rfl|exact b6 h
theorem Ao.op(h:Ao cells)(n:OW o=true):Ao (cells++[.seg [o]]):=
 h.snoc (b:=[.seg [o]]) ⟨trivial,trivial⟩ (fun d k c=>⟨fun s=>LY n d k c s,trivial⟩) fun J J=>⟨trivial,trivial⟩
theorem Ao.push(h:Ao cells):Ao (cells++[.push]):=h.snoc (b:=[.push]) ⟨trivial,trivial⟩ (fun J J J=>⟨trivial,trivial⟩) fun J J=>⟨trivial,trivial⟩
def uE:List Cell->Prop
 |[]=>True
 | .push::_=>False
 | .row _ _ _ _::r=>uE r
 | .seg _::r=>uE r
theorem zJ:∀{cells:List Cell} {off:Nat},pX off cells=[]->uE cells:=by
 intro cells;induction cells with
 |nil=>exact @fun J J=>trivial
 |cons z2 r Va=>
  induction z2 with
  |row _ _ _ _=>exact @fun off h=>Va h
  |seg _=>exact @fun off h=>Va h
  |push=>exact @fun off h=>nomatch h
theorem BW:∀{off:Nat} {bg:List Nat},pX off cells=bg++[p]->∃a b,cells=a++.push::b/\pX off a=bg/\p=off+pL a+1/\uE b:=by
 induction cells with
 |nil=>exact fun{off bg} h=>by induction bg using aH<;>exact nomatch h
 |cons x r ih=>
  intro off bg h;have more:∀{bg':List Nat},pX (off+(bytes x.ops).length) r=bg'++[p]->bg1 off x++bg'=bg->∃a b,x::r=a++.push::b/\pX off a=bg/\p=off+pL a+1/\uE b:=fun h z=>by obtain⟨a,b,xf⟩:=ih h;exact⟨x::a,b,congrArg _ xf.1,(congrArg (bg1 off x++·) xf.2.1).trans z,xf.2.2.1.trans (congrArg (· +1) ((aQ ..).trans (congrArg (off+·) (rd x a).symm))),xf.2.2.2⟩
  induction x using Cell.casesOn with
  |push=>
   induction bg using aH with
   |nil=>
    cases hb:pX (off+1) r with
    |nil=>exact⟨[],r,rfl,rfl,(eX h).1.symm,zJ hb⟩
    |cons x y=>exact nomatch hb.symm.trans (eX h).2
   |cons q bg=>exact more (eX h).2 (congrArg (· ::bg) (eX h).1)
  |_=>exact more h rfl
theorem zK:um d k (.mv d' e sz) c s=if d'=d then(match e with| .pl=>some (c,s)| .st j=>if j=k then some (sz,s)else some (c,s)| .ag j=>if j=k then(if c=sz then some (c,s)else none)else some (c,s))else some (c,s):=rfl
theorem zL:∀{b:List Cell} {c:Int} {s:List Int},uE b->wg d k b c->runC d k (pN b) c s=some (fin d k b c,s):=by
 intro b;induction b with
 |nil=>exact fun J J=>rfl
 |cons x b ih=>
 intro c s n h;induction x using Cell.casesOn with
 |push=>exact n.elim
 |row d' sz st e=>
  have e1:um d k (.mv d' e sz) c s=some (if d'=d/\st=IS k then sz else c,s):=by
   rw[zK];by_cases z:d'=d
   ·rw[if_pos z];have h:=h.1 z;by_cases q:st=IS k
    ·rw[show(if d'=d/\st=IS k then sz else c)=sz from if_pos ⟨z,q⟩];rcases h.1 q with e|⟨e,e'⟩<;>subst e
     ·exact if_pos rfl
     ·exact(if_pos rfl).trans ((if_pos e').trans (by rw[e']))
    ·rw[show(if d'=d/\st=IS k then sz else c)=c from if_neg fun y=>q y.2];have h:=h.2 q;induction e using Enc.casesOn with
     |pl=>rfl
     |st j=>exact if_neg fun y=>h.1 (by rw[y])
     |ag j=>exact if_neg fun y=>h.2 (by rw[y])
   ·rw[if_neg z,show(if d'=d/\st=IS k then sz else c)=c from if_neg fun y=>z y.1]
  show(match um d k (.mv d' e sz) c s with|some (c',s')=>runC d k (pN b) c' s'|none=>none)=_;exact e1▸ih n h.2
 |seg l=>show runC d k (l++pN b) c s=_;rw[yq,h.1 s];exact ih n h.2
theorem Ao.close(h:Ao (a++.push::b))(n:uE b):Ao (a++[.seg (.push::(pN b++[.pop]))]):=by
 have key:∀d k c,wg d k (.push::b) c->wg d k [.seg (.push::(pN b++[.pop]))] c:=fun d k c hc=>by refine⟨fun s=>?_,trivial⟩;show runC d k (pN b++[.pop]) c (c::s)=_;rw[yq,zL (c:=c) n hc.2];rfl
 exact⟨sN.mpr ⟨(sN.mp h.w).1,trivial,trivial⟩,fun d k=>(qD _ _ _).mpr ⟨((qD _ _ _).mp (h.c d k)).1,key d k _ ((qD _ _ _).mp (h.c d k)).2⟩,fun d k=>zG (x:=.push::b) (show inv d k [.seg (.push::(pN b++[.pop]))]from⟨trivial,trivial⟩) (key d k) _ (h.i d k)⟩
theorem GZ(o:Op):0<(enc o).length:=by
 induction o using Op.casesOn with
 |mv d e sz=>induction e using Enc.casesOn<;>exact cH _
 |chr c=>show 0<(if 128<=c then[128,c]else[c]).length;split<;>exact cH _
 |_=>exact cH _
theorem XU(h:pL cells=0):pN cells=[]:=by
 unfold pL at h;cases e:pN cells with
 |nil=>rfl
 |cons o r=>rw[e,tY,aa]at h;have:=GZ o;exact absurd (Nat.eq_zero_of_add_eq_zero h).1 (f7 this)
structure PS where
 F:PF
 cells:List Cell
 es:Es
 rO:List (Int×Int×Nat)
 rows:List V
def qc(x:Int):Prop:=(x.natAbs:Int)<=1073741823
noncomputable def PS.rs(s:PS):RS:=⟨s.F.h,s.F.v,s.F.fn,s.es.map ar,s.rO,s.F.dp,s.rows⟩
noncomputable def start(kn:List Int):RS:=⟨0,0,-1,kn,[],0,[]⟩
structure Cn where
 fw:FW
 kn:List Int
 H0:MH
 A:PA
 hdr:List Int
 fa:Int->Addr
structure tj(fa:Int->Addr)(es:Es):Prop where
 a:∀e∈es,e.2=fa e.1
 n:(es.map ar).Nodup
 b:∀e∈es,e.1=1\/e.1=2
theorem tj.len:∀{es:Es},tj fa es->es.length<=2
 |[],_=>bW _
 |[_],_=>bA _
 |[_,_],_=>aF _
 |x::y::z::r,h=>by
  rcases(h.b x (.head _))with e|e<;>rcases(h.b y (.tail _ (.head _)))with f|f<;>rcases(h.b z (.tail _ (.tail _ (.head _))))with g|g<;>first|exact absurd (e.trans f.symm) (fun e=>(aW.mp h.n).1 (e▸.head _))|exact absurd (e.trans g.symm) (fun e=>(aW.mp h.n).1 (e▸.tail _ (.head _)))|exact absurd (f.trans g.symm) (fun e=>(aW.mp (aW.mp h.n).2).1 (e▸.head _))
theorem tj.more{n:Int}(h:tj fa es)(hn:n∉es.map ar)(rL:n=1\/n=2):tj fa (es++[(n,fa n)]):=by
 refine⟨fun e he=>?_,?_,fun e he=>?_⟩
 ·exact(aM.mp he).elim (h.a e) fun z=>by rw[aI.mp z]
 ·rw[aG];exact cM.mpr ⟨h.n,dX _ _,fun x hx y hy e=>hn (by rw[bL,jB,aI]at hy;exact(show x=n from e.trans hy)▸hx)⟩
 ·exact(aM.mp he).elim (h.b e) fun z=>(aI.mp z)▸rL
structure Pg(c:Cn)(H:MH)(s:PS):Prop where
 hp:IC c.H0 H c.A s.F c.hdr s.cells s.es
 ci:Ao s.cells
 run:rB c.fw (pN s.cells) (start c.kn) s.rs
 bh:qc s.F.h
 bv:qc s.F.v
 ea:tj c.fa s.es
structure uF(s s':PS)(n:Nat):Prop where
 bg:∀off,pX off s'.cells=pX off s.cells
 ln:pL s'.cells<=pL s.cells+n
def PS.XW(s:PS)(x:Int)(new:List Cell):PS:={s with F:={s.F with h:=x},cells:=new}
noncomputable def PS.XX(s:PS)(x:Int)(new:List Cell):PS:={s with F:={s.F with v:=x},cells:=new}
theorem LZ(a:qc x)(b:qc y):Sm (x - y):=by unfold qc Sm at*;exact Z.we (Z.o 0x11111111115969086850fffffff383960fffffff3838604982fffffff78350 [_,_] [_,_] rfl a b (Z.na (x:=x)) (bF (a:=y))) (Z.o 0x11111111115969508680fffffff383960fffffff3838604fffffff7839820 [_,_] [_,_] rfl a b (bF (a:=x)) (Z.na (x:=y)))
theorem Be(a:qc x):Sm x:=by unfold qc Sm at*;exact Z.ncl a rfl
section
variable{L:List Fn}{c:Cn}{H:MH}{s:PS}
theorem uF.refl(s:PS):uF s s 0:=⟨fun J=>rfl,aF _⟩
theorem uF.trans(a:uF s s' n)(b:uF s' s'' m):uF s s'' (n+m):=⟨fun off=>(b.bg off).trans (a.bg off),ae b.ln (by have:=a.ln;exact Z.o 0x11112ba18519b1a19815 [] [_,_,_,_] rfl this)⟩
theorem Pg.obj(h:Pg c H s):H c.A.pg=some (LX c.A s.F):=let ⟨_,z7⟩:=h.hp;z7.1.pg
theorem Pg.oct(h:Pg c H s):H c.A.oc=some (.list (iL (c.hdr++bytes (pN s.cells)))):=let ⟨_,g,_⟩:=h.hp;g.oc
theorem Pg.old(h:Pg c H s):∀b o,c.H0 b=some o->H b=some o:=let ⟨_,g,_⟩:=h.hp;g.old
theorem Pg.mvo(h:Pg c H s)(k:Bool):H (c.A.m k)=some (.inst 469 [(44,.int (encM k)),(51,.ref (c.A.r k))]):=let ⟨_,g,_⟩:=h.hp;(g.mv k).o
theorem Pg.len:(c.hdr++bytes (pN s.cells)).length=c.hdr.length+pL s.cells:=aa
theorem vc(hd:4<=d)(h:Pg c H s)(hl:c.hdr.length+pL s.cells+5<=pq)(kE:¬qc x->Ov E H)(K:qc x->∀H' new,Pg c H' (s.XW x new)->uF s (s.XW x new) 5->Q .none H'):
  pz Th (pB L) d 39 [.ref c.A.pg,.int x] H Q E:=by
 have g0:=h.obj;refine call_of (fn:=SX) (qB hd rfl) rfl rfl ?_;simp![SX];refine sr (pV hd rfl) (fun b=>?_) kE;have gm:=h.mvo false;lia;refine vK (fun n=>?_) fun n=>?_
 ·lia;refine GY (k:=false) (pV hd rfl) h.hp h.ci hl fun H' new hp m=>?_;obtain⟨rs,tQ⟩:=hp;have g1:=tQ.1.pg;lia;refine K b _ new ⟨⟨rs,tQ.1.Bc {s.F with h:=x},tQ.2⟩,m.ci,h.run.mvd m ?_,b,h.bv,h.ea⟩ ⟨m.bg,m.ln⟩;have:=qw.vb (fw:=c.fw) (e:=.pl) (s:=s.rs) (LZ b h.bh) (show Sm (s.F.h+(x - s.F.h))from(show s.F.h+(x - s.F.h)=x from Z.o 0x11111109892812 [_,_] [] rfl).symm▸Be b);have this:=(show s.rs.h+(x - s.F.h)=x from(show s.F.h+(x - s.F.h)=x from Z.o 0x11111109892812 [_,_] [] rfl))▸this;exact this
 ·obtain rfl:x=s.F.h:=jd.mp n;exact K b H s.cells h ⟨fun J=>rfl,aC _ _⟩
theorem wM(hd:4<=d)(h:Pg c H s)(hl:c.hdr.length+pL s.cells+5<=pq)(kE:¬qc x->Ov E H)(K:qc x->∀H' new,Pg c H' (s.XX x new)->uF s (s.XX x new) 5->Q .none H'):
  pz Th (pB L) d 40 [.ref c.A.pg,.int x] H Q E:=by
 have g0:=h.obj;refine call_of (fn:=SY) (qB hd rfl) rfl rfl ?_;simp![SY];refine sr (pV hd rfl) (fun b=>?_) kE;have gm:=h.mvo true;lia;refine vK (fun n=>?_) fun n=>?_
 ·lia;refine GY (k:=true) (pV hd rfl) h.hp h.ci hl fun H' new hp m=>?_;obtain⟨rs,tQ⟩:=hp;have g1:=tQ.1.pg;lia;refine K b _ new ⟨⟨rs,tQ.1.Bc {s.F with v:=x},tQ.2⟩,m.ci,h.run.mvd m ?_,h.bh,b,h.ea⟩ ⟨m.bg,m.ln⟩;have:=qw.down (fw:=c.fw) (e:=.pl) (s:=s.rs) (LZ b h.bv) (show Sm (s.F.v+(x - s.F.v))from(show s.F.v+(x - s.F.v)=x from Z.o 0x11111109892812 [_,_] [] rfl).symm▸Be b);have this:=(show s.rs.v+(x - s.F.v)=x from(show s.F.v+(x - s.F.v)=x from Z.o 0x11111109892812 [_,_] [] rfl))▸this;exact this
 ·obtain rfl:x=s.F.v:=jd.mp n;exact K b H s.cells h ⟨fun J=>rfl,aC _ _⟩
end
noncomputable def zM(n:Int)(nm:PySem.Str)(pr ch:Addr):O:=.inst 775 [(38,.int n),(37,.str nm),(59,.int 655360),(12,.int 655360),(5,.int 0),(43,.ref pr),(4,.ref ch),(46,.tup []),(30,.tup []),(3,.int 256),(15,.int (-1)),(28,.int 45),(60,.int (-1))]
noncomputable def x9(w:Int):V:=.tup [.int w,.int 5,.int 0,.int 0,.int 0,.int 0]
structure Bf(H:MH)(fw:FW)(n:Int)(a:Addr)(nm:PySem.Str)(pr ch:Addr)(es:List (Int×V))(ep:Nat):Prop where
 rL:n=1\/n=2
 o:H a=some (zM n nm pr ch)
 nm:nm=⟨#[102,(96+n).toNat]⟩
 d:H ch=some (.dict es ep)
 no:∀c,fw n c=none->p8 c es=none
 yes:∀c w,fw n c=some w->p8 c es=some (x9 w)
def wN(H:MH)(fw:FW)(n:Int)(a:Addr):Prop:=∃nm pr ch es ep,Bf H fw n a nm pr ch es ep
section
variable{L:List Fn}{H H':MH}{fw:FW}{n:Int}{a:Addr}{nm:PySem.Str}{pr ch:Addr}{es:List (Int×V)}{ep:Nat}
theorem Bf.more(h:Bf H fw n a nm pr ch es ep)(k:∀b o,H b=some o->H' b=some o):Bf H' fw n a nm pr ch es ep:=⟨h.rL,k _ _ h.o,h.nm,k _ _ h.d,h.no,h.yes⟩
theorem L0(hd:1<=d)(h:Bf H fw n a nm pr ch es ep)(k1:∀w,fw n c=some w->Q (.bool true) H)(k2:fw n c=none->Q (.bool false) H):pz Th (pB L) d 61 [.ref a,.int c] H Q E:=by
 have ho:=h.o;refine call_of (fn:=Ta) hd rfl rfl ?_;simp![Ta];refine .Ep h.d ?_;cases e:fw n c with
 |none=>exact tD (fun z=>z (h.no c e)) (k2 e)
 |some w=>exact An ((h.yes c w e)▸(ix _)) (k1 w e)
theorem zN(hd:1<=d)(h:Bf H fw n a nm pr ch es ep)(e:fw n c=some w)(k:Q (.int w) H):pz Th (pB L) d 62 [.ref a,.int c] H Q E:=by have ho:=h.o;have hc:=h.d;refine call_of (fn:=Tc) hd rfl rfl ?_;simp![Tc];refine⟨_,_,hc,.VU ?_⟩;exact(h.yes c w e)▸(.tup ⋯ rfl rfl k)
theorem Bg(hd:3<=d)(rL:n=1\/n=2)(g1:H a=some (zM n nm pr ch))(hnm:nm=⟨#[102,(96+n).toNat]⟩)(ho:H oc=some (.list (iL l)))(hl:l.length+18<=pq)(hoa:a≠oc)(k:∀H',(∀b o,b≠oc->H b=some o->H' b=some o)->H' oc=some (.list (iL (l++enc (.uf n))))->Q .none H'):pz Th (pB L) d 29 [.ref oc,.ref a] H Q E:=by
 have DL:nm.length=2:=by refine hnm▸?_;rfl
 have Vb:chars nm=[.str ⟨#[102]⟩,.str ⟨#[(96+n).toNat]⟩]:=by refine hnm▸?_;rfl
 have nm4:nm.cps.all (· <128)=true:=by refine hnm▸?_;refine jC.symm▸?_;rcases rL with rfl|rfl<;>rfl
 have small:((96+n).toNat:Int)=96+n:=Z.tn (rL.elim (fun e=>e▸by decide) fun e=>e▸by decide);refine call_of (fn:=SO) (qB hd rfl) rfl rfl ?_;simp![SO];refine .Nh (by refine DL▸?_;decide) ?_;lia;refine DL.symm▸?_;lia;refine .str (by refine DL▸?_;decide) nm4 ⟨by refine Vb▸?_;exact av rfl,?_⟩;refine Vb▸?_;have turn:∀(c:Nat) (K:Loc->Option V->MH->Prop) (r:V),c<=255->K [.rG,.str ⟨#[c]⟩] none H->qx Th (pz Th (pB L) (d - 1)) (.v 1) (.cmp .gt (.blt .ord (.cons (.v 1) .nil)) (.c (.int 255))) (.v 1) (.str ⟨#[c]⟩) [.rG,r] H K:=fun c K r hc k=>by simp![qx];refine .ord (c:=c) rfl ?_;lia;refine tD (Z.Vx hc rfl) ?_;lia;exact k
 refine⟨trivial,turn _ _ _ ⋯ ⟨trivial,turn _ _ _ (rL.elim (fun e=>e▸by decide) fun e=>e▸by decide) ⟨trivial,fun x hx=>fun y hy=>?_⟩⟩⟩;have hyx:=pA hy;refine .MN (rk.ref (pj hyx.1.symm up_eq) up_eq .nil) (Lu ?_);have nx:∀{b o},H b=some o->b≠x:=fun e=>px hx e;have ny:∀{b o},H b=some o->b≠y:=fun e=>px hyx.2 e;have kp:∀b o,H b=some o->((H.upd x (.list (uU (uU [] none) none))).upd y (.list [])) b=some o:=fun b o e=>pj (ny e) (pj (nx e) e);generalize (H.upd x (.list (uU (uU [] none) none))).upd y (.list [])=H1 at kp ⊢;have g1':=kp _ _ g1;have Z3:=kp _ _ ho;have ll:(iL l).length=l.length:=ah _;lia;have r1:vM n=1:=by unfold vM;rcases rL with rfl|rfl<;>rfl
 have b1:be 1 n=[n]:=by rcases rL with rfl|rfl<;>rfl
 refine vN (pV hd rfl) (l:=iL l) (ll▸(Z.ofm _ hl)) Z3 ?_;rw[<-aG,r1,b1];have pn:∀(v:Int) (l':List Int) (Q:QV),l'.length+4<=pq->Q .none (H1.upd oc (.list (iL (l'++be 4 v))))->pz Th (pB L) (d - 1) 25 [.ref oc,.int v,.int 4] (H1.upd oc (.list (iL l'))) Q E:=fun v l' Q hl' k=>by refine qf (r:=4) (pV hd rfl) ⋯ (by rw[ah];exact hl') up_eq ?_;rw[pF,<-aG];exact k
 have ln:∀(l1 l2:List Int),(l1++l2).length=l1.length+l2.length:=fun J J=>aa;have b4:∀v,(be 4 v).length=4:=fun v=>pM 4 v;have ap:∀(l':List Int) (v:Int) (K:QV),l'.length+1<=pq->K .none (H1.upd oc (.list (iL (l'++[v]))))->qS oc (iL l') (H1.upd oc (.list (iL l'))) K 1 [.int v]:=fun l' v K h k=>by refine qS.app (by rw[ah];exact bC h) ?_;rw[pF,<-show iL (l'++[v])=iL l'++[.int v]from aG];exact k
 lia;refine pn _ _ _ (by simp only[ln,a8,bZ];exact Z.off 12 hl) ?_;lia;refine pn _ _ _ (by simp only[ln,b4,a8,bZ];exact Z.off 8 hl) ?_;lia;refine pn _ _ _ (by simp only[ln,b4,a8,bZ];exact Z.off 4 hl) ?_;lia;refine⟨_,up_eq,ap _ _ _ (by simp only[ln,b4,a8,bZ];exact Z.off 3 hl) ?_⟩;lia;refine .Nh (by refine DL▸?_;decide) ?_;refine DL.symm▸?_;lia;refine⟨_,up_eq,ap _ _ _ (by simp only[ln,b4,a8,bZ];exact Z.off 2 hl) ?_⟩;lia;refine .str (by refine DL▸?_;decide) nm4 ?_;refine Vb▸?_;refine pQ trivial fun R hR=>?_;simp![lp];refine .ord (c:=102) rfl ?_;lia;refine⟨_,up_eq,ap _ _ _ (by simp only[ln,b4,a8,bZ];exact bC hl) (hR _ _ (pQ trivial fun R hR=>?_))⟩;simp![lp];refine .ord (c:=(96+n).toNat) rfl ?_;lia;refine⟨_,up_eq,ap _ _ _ (by simp only[ln,b4,a8,bZ];exact hl) (hR _ _ ⟨trivial,?_⟩)⟩;lia;refine k _ (fun b o hb e=>pj hb (kp b o e)) ?_;rw[small,up_eq];exact congrArg (fun z=>some (O.list (iL z))) (by simp only[ax];rfl)
end
noncomputable def AM(fa:Int->Addr)(n:Int)(es:Es):Es:=if n∈es.map ar then es else es++[(n,fa n)]
theorem zO{fa:Int->Addr}:∀{es:Es},(∀e∈es,e.2=fa e.1)->(n∈es.map ar->p8 n (wL es)=some (.ref (fa n)))/\(n∉es.map ar->p8 n (wL es)=none):=by
 intro x_;induction x_ with
 |nil=>intro _;exact⟨fun h=>(nomatch h),fun J=>rfl⟩
 |cons p_ es ih=>
  obtain⟨m,a⟩:=p_;intro h;show(_->(if m=n then some (V.ref a)else p8 n (wL es))=_)/\(_->(if m=n then some (V.ref a)else p8 n (wL es))=_);by_cases q:m=n
  ·rw[if_pos q,<-q];exact⟨fun J=>congrArg (fun z=>some (V.ref z)) (h _ (.head _)),fun z=>absurd (.head _) z⟩
  ·rw[if_neg q];exact⟨fun z=>(ih fun e he=>h e (.tail _ he)).1 ((aA.mp z).resolve_left fun y=>q y.symm),fun z=>(ih fun e he=>h e (.tail _ he)).2 fun y=>z (.tail _ y)⟩
theorem OX:∀{es:Es},n∉es.map ar->dput n (.ref a) (wL es)=wL (es++[(n,a)]):=by
 intro x_;induction x_ with
 |nil=>intro _;exact rfl
 |cons p_ es ih=>obtain⟨m,b⟩:=p_;intro h;show(if m=n then _ else(m,V.ref b)::dput n (.ref a) (wL es))=_;rw[if_neg fun q:m=n=>h (q▸.head _),ih fun y=>h (.tail _ y)];rfl
def PS.OY(s:PS)(fa:Int->Addr)(n:Int)(new:List Cell):PS:={s with F:={s.F with fn:=n},es:=AM fa n s.es,cells:=new}
section
variable{L:List Fn}{c:Cn}{H:MH}{s:PS}
theorem Bh:hdr++bytes (pN cells)++enc o=hdr++bytes (pN (cells++[.seg [o]])):=by rw[ql,qI,ax];exact congrArg (fun z=>hdr++(bytes (pN cells)++z)) (uM o).symm
theorem wQ:rowsOf d off (cells++[.seg l])=rowsOf d off cells:=by rw[qg];exact aO _
theorem IC.oct(h:IC H0 H A F hdr cells es):IC H0 (H.upd A.oc (.list (iL (hdr++bytes (pN cells)++enc o)))) A F hdr (cells++[.seg [o]]) es:=by obtain⟨rs,XY⟩:=h;exact Bh▸(⟨rs,XY.1.DI _,fun d=>(XY.2 d).trans wQ.symm⟩)
theorem vd:pX off (cells++[.seg l])=pX off cells:=by rw[rg];exact aO _
theorem zP:pL (cells++[.seg [o]])=pL cells+(enc o).length:=by rw[rU,rd];show _+((bytes [o]).length+0)=_;rw[uM,hZ]
theorem IC.Bc(F':PF)(h:IC H0 H A F hdr cells es):IC H0 (H.upd A.pg (LX A F')) A F' hdr cells es:=
 let ⟨rs,z7⟩:=h;⟨rs,z7.1.Bc F',z7.2⟩
theorem Pg.uH(h:Pg c H s):∃ep,H c.A.fd=some (.dict (wL s.es) ep):=let ⟨_,z7⟩:=h.hp;z7.1.fd
theorem Pg.out(h:Pg c H s)(e:c.H0 b=some o):b≠c.A.pg/\b≠c.A.oc/\b≠c.A.fd:=let ⟨_,g,_⟩:=h.hp;⟨fun z=>g.out e (.inl z),fun z=>g.out e (.inr (.inl z)),fun z=>g.out e (.inr (.inr (.inl z)))⟩
theorem Pg.ne(h:Pg c H s):c.A.pg≠c.A.oc/\c.A.pg≠c.A.fd/\c.A.oc≠c.A.fd:=let ⟨_,g,_⟩:=h.hp;g.d1
theorem Pg.seg(h:Pg c H s)(n:OW o=true)(st:qw c.fw o s.rs {s with rows:=rows}.rs):Pg c (H.upd c.A.oc (.list (iL (c.hdr++bytes (pN s.cells)++enc o)))) {s with cells:=s.cells++[.seg [o]],rows:=rows}:=
 ⟨h.hp.oct,h.ci.op n,h.run.snoc st,h.bh,h.bv,h.ea⟩
theorem Pg.Uh(F:PF)(h:Pg c H s)(n:OW o=true)(st:qw c.fw o s.rs {s with F:=F,rows:=rows}.rs)(b1:qc F.h)(b2:qc F.v):Pg c ((H.upd c.A.oc (.list (iL (c.hdr++bytes (pN s.cells)++enc o)))).upd c.A.pg (LX c.A F)) {s with F:=F,cells:=s.cells++[.seg [o]],rows:=rows}:=
 ⟨h.hp.oct.Bc F,h.ci.op n,h.run.snoc st,b1,b2,h.ea⟩
theorem Pg.an9{H':MH}(h:Pg c H s)(rL:n=1\/n=2)(hn:n∉s.es.map ar)(k:∀b o,b≠c.A.oc->H b=some o->H' b=some o)(ho:H' c.A.oc=some (.list (iL (c.hdr++bytes (pN s.cells)++enc (.uf n)))))(ep:Nat):
  Pg c (H'.upd c.A.fd (.dict (wL (s.es++[(n,c.fa n)])) ep)) {s with es:=s.es++[(n,c.fa n)],cells:=s.cells++[.seg [.uf n]]}:=by
 refine⟨?_,h.ci.op rfl,h.run.snoc (s'':={s.rs with kn:=s.rs.kn++[n]}) (.uf hn rL)|> fun z=>?_,h.bh,h.bv,h.ea.more hn rL⟩
 ·obtain⟨rs,ux⟩:=h.hp;rw[Bh]at ho;exact⟨rs,ux.1.change (fun b o J b1 b2 z=>pj b2 (k b o b1 z)) (pj ux.1.d1.2.1 (k _ _ ux.1.d1.1 ux.1.pg)) (pj ux.1.d1.2.2 ho) ⟨ep,up_eq⟩,fun d=>(ux.2 d).trans wQ.symm⟩
 ·have:{s with es:=s.es++[(n,c.fa n)],cells:=s.cells++[.seg [.uf n]]:PS}.rs={s.rs with kn:=s.rs.kn++[n]}:=by unfold PS.rs;refine aG▸?_;rfl
  refine this▸?_;exact z
theorem ID{d:Nat}(hd:4<=d)(hf:wN c.H0 c.fw n (c.fa n))(h:Pg c H s)(hl:c.hdr.length+pL s.cells+19<=pq)(K:∀H' new,Pg c H' (s.OY c.fa n new)->uF s (s.OY c.fa n new) 19->Q .none H'):
  pz Th (pB L) d 41 [.ref c.A.pg,.ref (c.fa n)] H Q E:=by
 obtain⟨nm,pr,ch,es,ep,hf⟩:=hf;have g0:=h.obj;have gf:=h.old _ _ hf.o;obtain⟨XZ,gd⟩:=h.uH;have rL:=hf.rL;have L1:∀(s1:PS) (H1:MH) (v:V) (R:QV),Pg c H1 s1->n∈s1.es.map ar->uF s s1 18->(∀H' new,Pg c H' {s1 with F:={s1.F with fn:=n},cells:=new}->uF s {s1 with F:={s1.F with fn:=n},cells:=new} 19->R .none H')->
   wSs Th (pz Th (pB L) (d - 1)) (.cons (.pT (.cmp .ne (.attr (.v 1) 38) (.attr (.v 0) 17))
  (.cons (.pT (.cmp .lt (.attr (.v 1) 38) (.c (.int 64)))
   (.cons (.expr (.pD (.attr (.v 0) 39) 1 (.cons (.bin .add (.c (.int 171)) (.attr (.v 1) 38)) .nil))) .nil)
   (.cons (.expr (.call 27 (.cons (.attr (.v 0) 39) (.cons (.c (.int 235)) (.cons (.attr (.v 1) 38) .nil))))) .nil))
  (.cons (.asg (.attr (.v 0) 17) (.attr (.v 1) 38)) .nil)) .nil) .nil) [.ref c.A.pg,.ref (c.fa n),v] H1 (rK R) E:=fun s1 H1 v R h1 hn gr k=>by
  have g1:=h1.obj
  have gf1:=h1.old _ _ hf.o
  lia
  refine vK (fun z=>?_) fun z=>?_
  ·lia;refine An (Z.o 0x11112213801042381 [_] [] rfl (Z.hh rL rfl)) ?_;have go:=h1.oct;have:=gr.ln;lia;refine⟨_,go,qS.app (by rw[ah,Pg.len];exact Z.o 0x11111132123b195a3123b81152a9815 [] [_,_,_,_] rfl hl this) ?_⟩;have Hq:=h1.ne.1;have hnf:=(h1.out hf.o).2.1;lia;have e1:iL (c.hdr++bytes (pN s1.cells)++enc (.Iz n))=iL (c.hdr++bytes (pN s1.cells))++[.int (171+n)]:=aG;refine e1▸?_;exact k _ _ (h1.Uh {s1.F with fn:=n} (o:=.Iz n) rfl (.Iz hn rL) h1.bh h1.bv) ⟨fun off=>vd.trans (gr.bg off),by refine zP▸?_;exact bB this 1⟩
  ·obtain rfl:n=s1.F.fn:=jd.mp z;lia;exact k _ s1.cells h1 ⟨gr.bg,gA gr.ln⟩
 refine call_of (fn:=S0) (qB hd rfl) rfl rfl ?_;simp![S0];refine⟨_,_,gd,.Jw ?_⟩;by_cases hn:n∈s.es.map ar
 ·rw[show(p8 n (wL s.es)).getD .none=.ref (c.fa n) by rw[(zO h.ea.a).1 hn];rfl];have e0:AM c.fa n s.es=s.es:=if_pos hn;unfold PS.OY at K;have K:=e0▸K;lia;refine .P9 gf gf (tD (fun z=>z rfl) ?_);simp![-sY];exact L1 s H _ _ h hn ⟨fun J=>rfl,aC _ _⟩ K
 ·rw[show(p8 n (wL s.es)).getD .none=.none by rw[(zO h.ea.a).2 hn];rfl];have e0:AM c.fa n s.es=s.es++[(n,c.fa n)]:=if_neg hn;unfold PS.OY at K;have K:=e0▸K;lia;refine Bg (pV hd rfl) rL gf hf.nm h.oct (Pg.len▸(bC hl)) (h.out hf.o).2.1 fun H1 ko ho=>?_;have g1:=ko _ _ h.ne.1 h.obj;have gd1:=ko _ _ h.ne.2.2.symm gd;have gf1:=ko _ _ (h.out hf.o).2.1 gf;simp![-sY];rw[sY];simp![-sY];refine .uH gd1 (by unfold wL;rw[ah];have:=h.ea.len;exact Z.lb1 this rfl) fun ep=>?_;refine(OX hn)▸?_;simp![-sY];exact L1 _ _ _ _ (h.an9 rL hn ko ho ep) (aG▸(fB _ (.head _))) ⟨fun off=>vd,by refine zP▸?_;exact aF _⟩ K
end
noncomputable def PS.to(s:PS)(h v fn:Int)(es:Es)(rows:List V)(new:List Cell):PS:=⟨⟨h,v,fn,s.F.dp⟩,new,es,s.rO,rows⟩
noncomputable def DM(h v n c:Int):V:=.tup [.int 0,.int h,.int v,.int n,.int c]
noncomputable def DN(h v a b:Int):V:=.tup [.int 1,.int h,.int v,.int a,.int b]
noncomputable def BX(h v:Int)(l:List Int):V:=.tup [.int 2,.int h,.int v,.bytes l]
theorem qZ(l:List Int)(x:Int):iL l++[V.int x]=iL (l++[x]):=(aG (l₁:=l) (l₂:=[x])).symm
theorem uF.seg(g:uF s s' n)(e:s''.cells=s'.cells++[.seg [o]])(h:n+(enc o).length<=m):uF s s'' m:=
 ⟨fun off=>by refine e.symm▸?_;refine vd.symm▸?_;exact g.bg off,by refine e▸?_;refine zP▸?_;have:=g.ln;exact Z.o 0x1111113ca185b9c152ba19815 [] [_,_,_,_,_] rfl h this⟩
section
variable{L:List Fn}{c:Cn}{H:MH}{s:PS}
theorem IE(hd:5<=d)(hf:wN c.H0 c.fw n (c.fa n))(hw:c.fw n k=some w)(hk:0<=k/\k<=255)(h:Pg c H s)(hl:c.hdr.length+pL s.cells+31<=pq)(kE:∀H',(∀b o,c.H0 b=some o->H' b=some o)->¬(qc x/\qc y/\qc (x+w))->Ov E H')
  (K:qc x->qc y->qc (x+w)->∀H' new,Pg c H' (s.to (x+w) y n (AM c.fa n s.es) (s.rows++[DM x y n k]) new)->uF s (s.to (x+w) y n (AM c.fa n s.es) (s.rows++[DM x y n k]) new) 31->Q .none H'):
  pz Th (pB L) d 42 [.ref c.A.pg,.ref (c.fa n),.int k,.int x,.int y] H Q E:=by
 obtain⟨nm,pr,ch,es,ep,fd⟩:=id hf;have g0:=h.obj;have gf:=h.old _ _ fd.o;refine call_of (fn:=S2) (qB hd rfl) rfl rfl ?_;simp![S2];refine L0 (pV hd rfl) (fd.more h.old) (fun w' J=>?_) fun e=>by rw[hw]at e;exact nomatch e
 lia;refine vc (pV hd rfl) h (AH hl rfl) (fun b=>kE _ h.old fun z=>b z.1) fun b1 H1 BY h1 r1=>?_;have g1:=h1.obj;have l1:=r1.ln;lia;refine wM (pV hd rfl) h1 (bud hl r1.ln rfl) (fun b=>kE _ h1.old fun z=>b z.2.1) fun b2 H2 uN h2 r2=>?_;have g2:=h2.obj;have l2:=r2.ln;lia;refine ID (pV hd rfl) hf h2 (bud hl (r1.trans r2).ln rfl) fun H3 v9 h3 r3=>?_;have g3:=h3.obj;have l3:=r3.ln;have o3:=h3.oct;have q1:=h3.ne.1;have q3:=(h3.out fd.o).2.1;have gf3:=h3.old _ _ fd.o;have e1:pL BY<=pL s.cells+5:=l1;have tail:∀(H4:MH) (pre:List Int),H4 c.A.oc=some (.list (iL (c.hdr++bytes (pN v9)++pre)))->(∀o,H4.upd c.A.oc o=H3.upd c.A.oc o)->enc (.chr k)=pre++[k]->(∀b o,b≠c.A.oc->H3 b=some o->H4 b=some o)-> wSs Th (pz Th (pB L) (d - 1)) (.cons (.expr (.pD (.attr (.v 0) 39) 1 (.cons (.v 2) .nil)))
 (.cons (.asg (.attr (.v 0) 24) (.call 30 (.cons (.bin .add (.v 3) (.pD (.v 1) 72 (.cons (.v 2) .nil))) .nil))) .nil)) [.ref c.A.pg,.ref (c.fa n),.int k,.int x,.int y] H4 (rK Q) E:=fun H4 pre ho hu he hk4=>by
  have g4:=hk4 _ _ q1 g3;have lp:pre.length<=1:=by
   have:(enc (.chr k)).length<=2:=by show(if 128<=k then[128,k]else[k]).length<=2;split<;>exact av rfl
   rw[he,aa]at this;exact d7 this
  have e3:pL v9<=pL uN+19:=l3;have e2:pL uN<=pL BY+5:=l2;lia;refine⟨_,ho,qS.app (by rw[ah,aa,Pg.len (s:=⟨s.F,v9,s.es,s.rO,s.rows⟩)];show _+pL v9+_<=_;exact Z.o 0x1111111111116513d1e53123e195113a5513c1d5bf123c81155ba98115 [] [_,_,_,_,_,_,_] rfl hl e1 lp e3 e2) ?_⟩;have e4:iL (c.hdr++bytes (pN v9)++pre)++[.int k]=iL (c.hdr++bytes (pN v9)++enc (.chr k)):=by rw[he,<-ax];exact qZ _ _
  rw[e4,hu];lia;refine zN (pV hd rfl) (fd.more fun b o e=>pj (h3.out e).2.1 (h3.old b o e)) hw ?_;lia;refine sr (pV hd rfl) (fun b3=>?_) fun b3=>kE _ (fun b o e=>pj (h3.out e).2.1 (h3.old b o e)) fun z=>b3 z.2.2;lia;have st:qw c.fw (.chr k) (s.to x y n (AM c.fa n s.es) s.rows v9).rs (s.to (x+w) y n (AM c.fa n s.es) (s.rows++[DM x y n k]) v9).rs:=.chr hk hw (Be b3);exact K b1 b2 b3 _ _ (h3.Uh ⟨x+w,y,n,s.F.dp⟩ rfl st b3 b2) (((r1.trans r2).trans r3).seg rfl (by rw[he,aa];show 29+(_+1)<=31;exact Z.o 0x11112113851f12311381d12315 [] [_] rfl lp))
 lia;refine vK (fun z=>?_) fun z=>?_
 ·have e5:enc (.chr k)=[128,k]:=if_pos z;simp![-sY];refine⟨_,o3,qS.app (by rw[ah,aa];show _+pL v9<=_;have e3:pL v9<=pL uN+19:=l3;have e2:pL uN<=pL BY+5:=l2;exact Z.o 0x11111111115513c1d53123d195513b1c5af123b81154a9815 [] [_,_,_,_,_,_] rfl hl e1 e3 e2) ?_⟩;rw[qZ];simp![-sY];exact tail _ [128] up_eq (fun o=>pF ..) e5 fun b o hb e=>pj hb e
 ·have e5:enc (.chr k)=[k]:=if_neg z;simp![-sY];exact tail H3 [] (by rw[aO];exact o3) (fun o=>rfl) e5 fun b o J e=>e
theorem OZ(l:List Int)(a b:Int):l++[132]++be 4 a++be 4 b=l++enc (.uk true a b):=by simp only[ax];rfl
theorem O0(l0 l:List Int):l0++[239+((1:Nat):Int) - 1,(l.length:Int)]++l=l0++enc (.uC l):=by simp only[ax];rfl
theorem O6(hd:5<=d)(h:Pg c H s)(hl:c.hdr.length+pL s.cells+19<=pq)(kE:∀H',(∀b o,c.H0 b=some o->H' b=some o)->¬(Sm a/\Sm b/\(0<a->0<b->qc x/\qc y/\qc (x+b)))->Ov E H')
  (K0:¬(0<a/\0<b)->Q .none H)
  (K:0<a->0<b->qc x->qc y->qc (x+b)->∀H' new,Pg c H' (s.to (x+b) y s.F.fn s.es (s.rows++[DN x y a b]) new)->uF s (s.to (x+b) y s.F.fn s.es (s.rows++[DN x y a b]) new) 19->Q .none H'):
  pz Th (pB L) d 43 [.ref c.A.pg,.int a,.int b,.int x,.int y,.bool true] H Q E:=by
 have g0:=h.obj;refine call_of (fn:=S3) (qB hd rfl) rfl rfl ?_;simp![S3];refine tE (pV hd rfl) (fun sa=>?_) fun z=>kE _ h.old fun q=>z q.1;refine tE (pV hd rfl) (fun sb=>?_) fun z=>kE _ h.old fun q=>z q.2.1;lia;refine vK (fun z=>?_) fun za=>?_
 ·lia;exact K0 fun q=>bJ.mpr z q.1
 lia;refine vK (fun z=>?_) fun zb=>?_
 ·lia;exact K0 fun q=>bJ.mpr z q.2
 have za:=d4.mp za;have zb:=d4.mp zb;lia;refine vc (pV hd rfl) h (AH hl rfl) (fun b=>kE _ h.old fun z=>b (z.2.2 za zb).1) fun b1 H1 BY h1 r1=>?_;have g1:=h1.obj;lia;refine wM (pV hd rfl) h1 (bud hl r1.ln rfl) (fun b=>kE _ h1.old fun z=>b (z.2.2 za zb).2.1) fun b2 H2 uN h2 r2=>?_;have g2:=h2.obj;have o2:=h2.oct;have q1:=h2.ne.1;have q3:∀{l:List Int} b o,c.H0 b=some o->(H2.upd c.A.oc (.list (iL l))) b=some o:=fun b o e=>pj (h2.out e).2.1 (h2.old b o e);have e1:pL BY<=pL s.cells+5:=r1.ln;have e2:pL uN<=pL BY+5:=r2.ln;have e3:(c.hdr++bytes (pN uN)).length=c.hdr.length+pL uN:=aa;lia;refine⟨_,o2,qS.app (by rw[ah,Pg.len];show _+pL uN<=_;exact Z.o 0x111111114513c195513b1c5a3123b81153a9815 [] [_,_,_,_,_] rfl hl e1 e2) ?_⟩;rw[qZ];lia;refine qf (r:=4) (pV hd rfl) ⋯ (by rw[ah,aa];show(c.hdr++bytes (pN uN)).length+1+4<=_;exact Z.o 0x11111111116da187513c1d5513b1c593123ba115494131138115 [] [_,_,_,_,_,_] rfl hl e1 e2 e3) up_eq ?_;rw[pF,<-aG];lia;refine qf (r:=4) (pV hd rfl) ⋯ (by rw[ah,aa,aa,pM];show(c.hdr++bytes (pN uN)).length+1+4+4<=_;exact Z.o 0x11111111116da187513c1d5513b1c593123ba1154941341311381115 [] [_,_,_,_,_,_] rfl hl e1 e2 e3) up_eq ?_;rw[pF,<-aG];lia;refine sr (pV hd rfl) (fun b3=>?_) fun b3=>kE _ q3 fun z=>b3 (z.2.2 za zb).2.2;lia;rw[OZ];have st:qw c.fw (.uk true a b) (s.to x y s.F.fn s.es s.rows uN).rs (s.to (x+b) y s.F.fn s.es (s.rows++[DN x y a b]) uN).rs:=.uk ⟨za,sa⟩ ⟨zb,sb⟩ (Be b3);have e5:(enc (.uk true a b)).length=9:=by show(be 4 a++be 4 b).length+1=9;rw[aa,pM,pM]
 exact K za zb b1 b2 b3 _ _ (h2.Uh ⟨x+b,y,s.F.fn,s.F.dp⟩ rfl st b3 b2) ((r1.trans r2).seg rfl (e5▸(aF 19)))
theorem Fw(hd:5<=d)(hb:l.length<256)(GP:∀i∈l,0<=i/\i<=255)(h:Pg c H s)(hl:c.hdr.length+pL s.cells+15+l.length<=pq)(kE:∀H',(∀b o,c.H0 b=some o->H' b=some o)->¬(qc x/\qc y)->Ov E H')
  (K:qc x->qc y->∀H' new,Pg c H' (s.to x y s.F.fn s.es (s.rows++[BX x y l]) new)->uF s (s.to x y s.F.fn s.es (s.rows++[BX x y l]) new) (12+l.length)->Q .none H'):
  pz Th (pB L) d 44 [.ref c.A.pg,.bytes l,.int x,.int y] H Q E:=by
 have g0:=h.obj;refine call_of (fn:=S4) (qB hd rfl) rfl rfl ?_;simp![S4];have hl0:c.hdr.length+pL s.cells+15<=pq:=ae (aC _ _) hl;refine vc (pV hd rfl) h (AH hl0 rfl) (fun b=>kE _ h.old fun z=>b z.1) fun b1 H1 BY h1 r1=>?_;have g1:=h1.obj;lia;have l1:=r1.ln;have e1:pL BY<=pL s.cells+5:=l1;refine wM (pV hd rfl) h1 (bud hl0 r1.ln rfl) (fun b=>kE _ h1.old fun z=>b z.2) fun b2 H2 uN h2 r2=>?_;have g2:=h2.obj;have o2:=h2.oct;have q1:=h2.ne.1;have e2:pL uN<=pL BY+5:=r2.ln;have e3:(c.hdr++bytes (pN uN)).length=c.hdr.length+pL uN:=aa;lia;refine .Hu (Z.UY _ hl) ?_;have r0:vM l.length=1:=if_pos (bR.mpr hb);have b0:be 1 (l.length:Int)=[(l.length:Int)]:=by unfold be be;rw[Int.pow_zero,Int.fdiv_one,dx (by exact Z.o 0x111086030 [] [_] rfl) (by exact Z.o 0x111120013386100133861 [] [_] rfl hb)]
 refine vN (l:=iL (c.hdr++bytes (pN uN))) (pV hd rfl) (by rw[ah];exact Z.o 0x11111111116ea187513d1e5513b1d59cf13ba111549513815 [] [_,_,_,_,_,_,_] rfl hl e1 e2 e3) o2 ?_;rw[r0,b0,<-aG];refine ur.own (v:=.ref c.A.oc) (pj q1 g2) rfl (xC.lst up_eq ⋯ ?_);simp_arith [JQ];refine⟨_,up_eq,qS.VT (by rw[ah,aa];exact Z.o 0x11111111116eb187513d1e5513c1d5a9f13cb11154a92138115 [] [_,_,_,_,_,_,_] rfl hl e1 e2 e3) ?_⟩;rw[pF,<-aG];rw[O0];have e5:(enc (.uC l)).length=2+l.length:=bk _ 2;have st:qw c.fw (.uC l) (s.to x y s.F.fn s.es s.rows uN).rs (s.to x y s.F.fn s.es (s.rows++[BX x y l]) uN).rs:=.uC hb GP;lia;exact K b1 b2 _ _ (h2.seg (rows:=s.rows++[BX x y l]) rfl st) ((r1.trans r2).seg rfl (e5▸(Z.o 0x11108c13182131513513115 [] [_] rfl)))
end
theorem Bj:∀{off:Nat},r∈rowsOf d off cells->off<=r.sp:=by
 induction cells with
 |nil=>exact fun h=>nomatch h
 |cons x cs ih=>
  refine fun{off} h=>(aM.mp h).elim (fun h=>?_) fun h=>ae (aC _ _) (ih h);induction x using Cell.casesOn with
  |row d' sz s e=>
   have h:r∈(if d'=d then[Row.mk sz off s]else[]):=h;split at h
   ·rw[aI.mp h];exact aF _
   ·exact nomatch h
  |_=>exact nomatch h
theorem IF(h1:∀x∈l1,¬b<=x.2.sp)(h2:∀x∈l2,b<=x.2.sp):LB b (l1++l2)=l1:=by
 unfold LB;refine List.reverse_append.symm▸?_;refine(List.dropWhile_append_of_pos fun x hx=>decide_eq_true (h2 x (gQ.mp hx))).symm▸?_;cases e:l1.reverse with
 |nil=>exact(List.reverse_eq_nil_iff.mp e).symm
 |cons x r=>rw[List.dropWhile_cons_of_neg,<-e,List.reverse_reverse];rw[decide_eq_true_eq];exact h1 x (gQ.mp (e▸.head _))
section
variable{L:List Fn}{H0 H:MH}{A:PA}{F:PF}{oct:List Int}{es:Es}{rs:Bool->Rows}{c:Cn}{s:PS}
theorem vx.prune(h:vx H0 H A F oct es rs)(e:rs k=l1++l2):vx H0 (H.upd (A.r k) (.list (refs l1))) A F oct es (setB rs k l1):=by
 have hk:setB rs k l1 k=l1:=if_pos rfl;have ho:∀{d b},b∈wj A (setB rs k l1) d->b∈wj A rs d:=fun{d b} hb=>by
  by_cases z:d=k
  ·subst z;unfold wj at hb ⊢;rw[hk]at hb;exact e▸aG▸bT▸bT▸(eM _ hb)
  ·unfold wj at hb;rw[(show∀{d},d≠k->setB rs k l1 d=rs d from fun z=>if_neg z) z]at hb;exact hb
 have hr:A.r k∈wj A rs k:=.tail _ (.head _);have m:=h.mv k;have nd:=m.nd;rw[e,aG,<-bT,<-bT]at nd;have nd1:=(cM.mp nd).1;have n2:=aW.mp (aW.mp nd1).2;refine⟨fun b o z=>pj (fun q=>h.out z (.inr (.inr (.inr ⟨k,q▸hr⟩)))) (h.old b o z),fun b hb=>h.new b ?_,pj (fun q=>(h.d2 k).1 (q▸hr)) h.pg,pj (fun q=>(h.d2 k).2.1 (q▸hr)) h.oc,let ⟨ep,z⟩:=h.fd;⟨ep,pj (fun q=>(h.d2 k).2.2 (q▸hr)) z⟩,fun d=>?_,h.d1,fun d=>⟨fun z=>(h.d2 d).1 (ho z),fun z=>(h.d2 d).2.1 (ho z),fun z=>(h.d2 d).2.2 (ho z)⟩,fun d d' x n h1 h2=>h.d3 d d' x n (ho h1) (ho h2)⟩
 ·rcases hb with z|z|z|⟨d,z⟩
  ·exact .inl z
  ·exact .inr (.inl z)
  ·exact .inr (.inr (.inl z))
  ·exact .inr (.inr (.inr ⟨d,ho z⟩))
 ·by_cases z:d=k
  ·subst z;refine hk.symm▸?_;exact⟨pj (fun q=>(aW.mp nd1).1 (q▸.head _)) m.o,up_eq,fun x hx=>pj (fun q=>n2.1 (q▸aY.mpr ⟨x,hx,rfl⟩)) (m.r x (e▸(eM _ hx))),nd1⟩
  ·refine((show∀{d},d≠k->setB rs k l1 d=rs d from fun z=>if_neg z) z)▸?_;exact(h.mv d).keep fun b o hb g=>pj (fun q=>h.d3 d k b z hb (q▸hr)) g
theorem cut(h:l.map cf=rowsOf k off (a++b))(h1:off+pL a<=bg)(h2:∀r∈rowsOf k (off+pL a) b,bg<=r.sp):∃l1 l2,l=l1++l2/\l1.map cf=rowsOf k off a/\LB bg l=l1:=by
 rw[qg]at h;obtain⟨l1,l2,Dk⟩:=List.map_eq_append_iff.mp h;have e:=Dk.1;repeat first|clear bg|clear b|clear l|clear h
 subst e;refine⟨l1,l2,rfl,Dk.2.1,IF (fun x hx z=>?_) fun x hx=>?_⟩
 ·have:=Bd (d:=k) (off:=off) (cells:=a) (r:=x.2) (Dk.2.1▸(aY.mpr ⟨x,hx,rfl⟩));exact Z.o 0x11111104981b6b6a60a9815300f [] [_,_,_,_] rfl h1 z this
 ·exact bq.mpr (h2 x.2 (Dk.2.2▸(aY.mpr ⟨x,hx,rfl⟩)))
noncomputable def PS.uo(s:PS):PS:=⟨s.F,s.cells++[.push],s.es,(s.F.h,s.F.v,s.rows.length)::s.rO,s.rows⟩
theorem DO:rowsOf d off (cells++[.push])=rowsOf d off cells:=by rw[qg];exact aO _
theorem zQ:hdr++bytes (pN cells)++[141]=hdr++bytes (pN (cells++[.push])):=by rw[ql,qI,ax];rfl
theorem DP:pX off (cells++[.push])=pX off cells++[off+pL cells+1]:=by rw[rg];rfl
theorem uO:pL (cells++[.push])=pL cells+1:=by rw[rU];rfl
theorem L2(hd:1<=d)(h:Pg c H s)(hD:0<=c.A.D)(hl:c.hdr.length+pL s.cells<=pq)(K:Q (.int ((c.hdr.length+pL s.cells:Nat):Int)) H):pz Th (pB L) d 37 [.ref c.A.pg,.int 0] H Q E:=by have g0:=h.obj;refine call_of (fn:=La) hd rfl rfl ?_;simp![La];refine tD (bJ.mpr hD) ?_;lia;refine .ud h.oct (by rw[ah,Pg.len];exact hl) ?_;rw[ah,Pg.len];exact K
theorem O8(hd:1<=d)(h:Pg c H s)(hD:dep<=c.A.D)(h0:0<dep)(hl:c.hdr.length+pL s.cells+1<=pq)(K:∀H',Pg c H' s.uo->Q (.int ((c.hdr.length+pL s.cells+1:Nat):Int)) H'):pz Th (pB L) d 37 [.ref c.A.pg,.int dep] H Q E:=by
 have g0:=h.obj;have o0:=h.oct;have q:=h.ne.1;refine call_of (fn:=La) hd rfl rfl ?_;simp![La];refine tD (bJ.mpr hD) ?_;lia;refine An h0 ?_;lia;refine⟨_,o0,qS.app (by rw[ah,Pg.len];exact bC hl) ?_⟩;rw[qZ,zQ];lia;have e:(c.hdr++bytes (pN (s.cells++[.push]))).length=c.hdr.length+pL s.cells+1:=by rw[aa];exact congrArg (c.hdr.length+·) uO
 refine .ud up_eq (by rw[ah,e];exact hl) ?_;rw[ah,e];refine K _ ⟨?_,h.ci.push,?_,h.bh,h.bv,h.ea⟩
 ·obtain⟨rs,ux⟩:=h.hp;exact⟨rs,ux.1.DI _,fun d=>(ux.2 d).trans DO.symm⟩
 ·have:=h.run.append (.one (.push (fw:=c.fw)));rw[<-show pN (s.cells++[.push])=pN s.cells++[.push]from ql _ _]at this;exact this
theorem Bk(a b:Int):tL a [b]=max a b:=by show(if a<b then b else a)=_;split;exact(gM (b7 ‹_›)).symm;exact(fU (bJ.mp ‹_›)).symm
theorem vx.ya(hd:1<=d)(g:vx H0 H A F oct es rs)(hk:(rs k).map cf=rowsOf k off (a++b))(h1:off+pL a<=bg)(h2:∀r∈rowsOf k (off+pL a) b,bg<=r.sp)(hl:pL (a++b)<=pq)
  (K:∀H' l1,vx H0 H' A F oct es (setB rs k l1)->l1.map cf=rowsOf k off a->Q .none H'):pz Th (pB L) d 32 [.ref (A.m k),.int (bg:Int)] H Q E:=by
 obtain⟨l1,l2,BG⟩:=cut hk h1 h2;refine LF hd (g.mv k) ?_ ?_
 ·have:=zI (d:=k) (a++b) off;rw[<-hk,ah]at this;exact ae this hl
 ·refine BG.2.2▸?_;exact K _ l1 (g.prune BG.1) BG.2.1
theorem Qy{P:Bool->α->Prop}(h1:P false x)(h2:P true y):∀d,P d (setB (setB f false x) true y d)
 |true=>h2
 |false=>h1
noncomputable def PS.cls(s:PS)(h0 v0 dp:Int)(r:List (Int×Int×Nat))(new:List Cell):PS:=⟨⟨h0,v0,s.F.fn,dp⟩,new,s.es,r,s.rows⟩
theorem L3{dep h0 v0:Int}{r:List (Int×Int×Nat)}{p:Nat}(hd:2<=d)(h:Pg c H s)(hs:s.rO=(h0,v0,n0)::r)(X1:dep=r.length+1)(hb:pX c.hdr.length s.cells=bg++[p])(ne:n0<s.rows.length)(b1:qc h0)(b2:qc v0)(hl:c.hdr.length+pL s.cells+1<=pq)
  (K:∀H' new,H' c.A.pg=some (LX c.A ⟨s.F.h,s.F.v,s.F.fn,max s.F.dp dep⟩)->Pg c (H'.upd c.A.pg (LX c.A ⟨h0,v0,s.F.fn,max s.F.dp dep⟩)) (s.cls h0 v0 (max s.F.dp dep) r new)->pX c.hdr.length new=bg->pL new<=pL s.cells+1->Q .none H'):
  pz Th (pB L) d 38 [.ref c.A.pg,.int p,.int dep] H Q E:=by
 obtain⟨a,b,ec,ea,ep,nb⟩:=BW hb;have hc:(c.hdr++bytes (pN s.cells)).length=c.hdr.length+pL s.cells:=Pg.len;have hbl:pL s.cells=pL a+(1+pL b):=by rw[ec,rU,rd];rfl
 have Hq:pL b≠0:=fun z=>by
  have run:=h.run;rw[ec,ql,show pN (.push::b)=.push::pN b from rfl,XU z]at run;obtain⟨x,r1,r2⟩:=run.split;cases r2 with
  |cons st r3=>
   cases st;generalize hy:({x with rO:=(x.h,x.v,x.rows.length)::x.rO}:RS)=y at r3;cases r3;have e1:((x.h,x.v,x.rows.length)::x.rO:List (Int×Int×Nat))=(h0,v0,n0)::r:=(congrArg RS.rO hy).trans hs;have e2:x.rows=s.rows:=congrArg RS.rows hy;injection e1 with e1 _
   injection e1 with _ e1
   injection e1 with _ e1
   rw[<-e1,e2]at ne;exact eW _ ne
 have hp:=h.hp;rw[show IC c.H0 H c.A s.F c.hdr s.cells s.es=IC c.H0 H c.A s.F c.hdr (a++.push::b) s.es from by rw[<-ec]]at hp;obtain⟨rs,g,hr⟩:=hp;have g0:=g.pg;have lo:pL (a++.push::b)<=pq:=ec▸(Z.UY _ (Z.off _ hl));have low:∀k,∀r∈rowsOf k (c.hdr.length+pL a) (.push::b),p<=r.sp:=fun k r hr=>by rw[ep];exact Bj (cells:=b) hr
 have m0:=(g.mv false).o;refine call_of (fn:=E8) (qB hd rfl) rfl rfl ?_;simp![E8];refine g.ya (pV hd rfl) (hr false) (Z.o 0x1101131139811a71a9815 [] [_,_,_] rfl ep) (low false) lo fun H1 l1 g1 e1=>?_;have q1:=g1.pg;have m1:=(g1.mv true).o;lia;refine g1.ya (pV hd rfl) (hr true) (Z.o 0x1101131139811a71a9815 [] [_,_,_] rfl ep) (low true) lo fun H2 l2 g2 e2=>?_;have q2:=g2.pg;have o2:=g2.oc;lia;have hd0:0<dep:=Z.o 0x1101131138618218031 [_] [_] rfl X1;have lc:(c.hdr++bytes (pN (a++.push::b))).length=c.hdr.length+pL s.cells:=ec▸hc;refine An hd0 ?_;lia;refine .ud o2 (by rw[ah,lc];exact bC hl) ?_;rw[ah,lc];lia;refine tD (fun z=>Hq ?_) ?_;have z:=fN z;clear hl lo lc hc;exact Z.o 0x1170111100111179ca1781131b1c7113ba119730387 [] [_,_,_,_,_] rfl ep hbl z;lia;refine An hd0 ?_;have qn:=g.d1.1;lia;refine⟨_,o2,qS.app (by rw[ah,lc];exact bC hl) ?_⟩;rw[qZ];lia;rw[Bk];have ob:pN (a++[.seg (.push::(pN b++[.pop]))])=pN s.cells++[.pop]:=by rw[ec,ql,ql,ax];exact congrArg (pN a++·) (aO _)
 have oy:c.hdr++bytes (pN (a++.push::b))++[142]=c.hdr++bytes (pN (a++[.seg (.push::(pN b++[.pop]))])):=by rw[ob,qI,<-ec,ax];rfl
 rw[oy];have rc:∀d',(setB (setB rs false l1) true l2 d').map cf=rowsOf d' c.hdr.length (a++[.seg (.push::(pN b++[.pop]))]):=fun d'=>(Qy (P:=fun k (l:Rows)=>l.map cf=rowsOf k c.hdr.length a) e1 e2 d').trans wQ.symm;refine K _ (a++[.seg (.push::(pN b++[.pop]))]) up_eq ?_ (vd.trans ea) ?_
 ·rw[pF];refine⟨⟨_,(g2.DI _).Bc _,rc⟩,Ao.close (ec▸h.ci) nb,?_,b1,b2,h.ea⟩;show rB c.fw (pN (a++[.seg (.push::(pN b++[.pop]))])) _ _;rw[ob];have st:qw c.fw .pop s.rs (s.cls h0 v0 (max s.F.dp dep) r (a++[.seg (.push::(pN b++[.pop]))])).rs:=by rw[X1];exact .pop hs
  exact h.run.append (.one st)
 ·unfold pL;rw[ob,qI,aa];exact aF _
theorem IG{E:QE}(hd:2<=d)(h:Pg c H s.uo)(h':∀H',IC c.H0 H' c.A s.F c.hdr s.cells s.es->Pg c H' s)(h0:0<dep)(hl:c.hdr.length+pL s.cells+1<=pq)
  (K:∀H',Pg c H' s->Q .none H'):pz Th (pB L) d 38 [.ref c.A.pg,.int ((c.hdr.length+pL s.cells+1:Nat):Int),.int dep] H Q E:=by
 obtain⟨rs,g,hr⟩:=h.hp;have g0:=g.pg;have m0:=(g.mv false).o;have lb:pL (s.cells++[.push])<=pq:=by rw[uO];exact Z.UY _ hl
 have low:∀k,∀r∈rowsOf k (c.hdr.length+pL s.cells) [.push],c.hdr.length+pL s.cells+1<=r.sp:=fun k r hr=>nomatch hr;have lc:(c.hdr++bytes (pN (s.cells++[.push]))).length=c.hdr.length+pL s.cells+1:=by rw[aa];exact congrArg (c.hdr.length+·) uO
 refine call_of (fn:=E8) (qB hd rfl) rfl rfl ?_;simp![E8];refine g.ya (a:=s.cells) (b:=[.push]) (pV hd rfl) (hr false) (bA _) (low false) lb fun H1 l1 g1 e1=>?_;have q1:=g1.pg;have m1:=(g1.mv true).o;lia;refine g1.ya (a:=s.cells) (b:=[.push]) (pV hd rfl) (hr true) (bA _) (low true) lb fun H2 l2 g2 e2=>?_;have q2:=g2.pg;have o2:=g2.oc;lia;refine An h0 ?_;lia;refine .ud o2 (by rw[ah];exact lc▸hl) ?_;rw[ah,show(c.hdr++bytes (pN s.uo.cells)).length=c.hdr.length+pL s.cells+1 from lc];lia;refine An rfl ?_;lia;have oy:iL (c.hdr++bytes (pN s.uo.cells))=iL (c.hdr++bytes (pN s.cells))++[.int 141]:=by rw[qZ,zQ];rfl
 refine⟨_,o2,qS.pop (x:=.int 141) (by rw[oy];exact ij) (by rw[ah];exact lc▸hl) ?_⟩;rw[oy,ik];exact K _ (h' _ ⟨_,g2.DI _,Qy (P:=fun k (l:Rows)=>l.map cf=rowsOf k c.hdr.length s.cells) e1 e2⟩)
theorem IH(hd:2<=d)(h:Pg c H s)(hl:c.hdr.length+pL s.cells+1<=pq)
  (K:∀H' rs,vx c.H0 H' c.A s.F (c.hdr++bytes (pN s.cells)) s.es rs->Q .none H'):pz Th (pB L) d 38 [.ref c.A.pg,.int (c.hdr.length:Int),.int 0] H Q E:=by obtain⟨rs,g,hr⟩:=h.hp;have g0:=g.pg;have m0:=(g.mv false).o;have low:∀k,∀r∈rowsOf k (c.hdr.length+pL []) s.cells,c.hdr.length<=r.sp:=fun k r hr=>Bj (off:=c.hdr.length) hr;refine call_of (fn:=E8) (qB hd rfl) rfl rfl ?_;simp![E8];refine g.ya (a:=[]) (b:=s.cells) (pV hd rfl) (hr false) (aF _) (low false) (by exact Z.UY _ (Z.off _ hl)) fun H1 l1 g1 e1=>?_;have q1:=g1.pg;have m1:=(g1.mv true).o;lia;refine g1.ya (a:=[]) (b:=s.cells) (pV hd rfl) (hr true) (aF _) (low true) (by exact Z.UY _ (Z.off _ hl)) fun H2 l2 g2 e2=>?_;lia;exact K _ _ g2
end
inductive It where
 |chr(n c w:Int)
 |yJ(w:Int)
 |uk(w h d:Int)
 |uC(l:List Int)
 |box(il:Addr)(w h d sh:Int)
inductive Tr where
 |nil
 |cons(a:Addr)(i:It)(sub r:Tr)
noncomputable def It.w:It->Int
 | .chr _ _ w=>w
 | .yJ w=>w
 | .uk w _ _=>w
 | .uC _=>0
 | .box _ w _ _ _=>w
def AN:Tr->List V
 | .nil=>[]
 | .cons a _ _ r=>.ref a::AN r
def DQ:Int->Tr->List Int
 |_,.nil=>[]
 |x,.cons _ i _ r=>(x+i.w)::DQ (x+i.w) r
def yb:Int->Tr->List V
 |_,.nil=>[]
 |x,.cons a i _ r=>.tup [.ref a,.int x,.int (x+i.w)]::yb (x+i.w) r
def Qz(fa:Int->Addr):It->O
 | .chr n c _=>Qv (fa n) c
 | .yJ w=>GS w
 | .uk w h d=>Dx w h d
 | .uC l=>GU l
 | .box il w h d sh=>va 2 w h d il sh
def O9(H:MH)(fw:FW)(sub:Tr):It->Prop
 | .chr n c w=>(n=1\/n=2)/\(0<=c/\c<=255)/\fw n c=some w
 | .yJ _=>True
 | .uk _ _ _=>True
 | .uC l=>l.length<256/\∀i∈l,0<=i/\i<=255
 | .box il _ _ _ _=>H il=some (.list (AN sub))
def Lies(H:MH)(fw:FW)(fa:Int->Addr):Tr->Prop
 | .nil=>True
 | .cons a i sub r=>H a=some (Qz fa i)/\O9 H fw sub i/\Lies H fw fa sub/\Lies H fw fa r
def sH(H:MH)(fw:FW)(fa:Int->Addr):Prop:=∀n,n=1\/n=2->wN H fw n (fa n)
def rS:Tr->Nat
 | .nil=>0
 | .cons _ _ _ r=>rS r+1
theorem BZ:∀ts,(AN ts).length=rS ts:=by
 intro ts;induction ts with
 |nil=>exact rfl
 |cons _ _ _ r _ pS=>exact congrArg (· +1) (pS)
theorem zR:∀ts x,(yb x ts).length=rS ts:=by
 intro ts;induction ts with
 |nil=>exact fun J=>rfl
 |cons _ i _ r _ pS=>exact fun x=>congrArg (· +1) (pS (x+i.w))
section
variable{L:List Fn}{G H H':MH}{fw:FW}{fa:Int->Addr}{a:Addr}{i:It}{sub r:Tr}
theorem O9.more(k:∀b o,H b=some o->H' b=some o):∀{i:It},O9 H fw sub i->O9 H' fw sub i:=by
 intro i;induction i with
 |chr _ _ _=>exact fun h=>h
 |yJ _=>exact fun h=>h
 |uk _ _ _=>exact fun h=>h
 |uC _=>exact fun h=>h
 |box _ _ _ _ _=>exact fun h=>k _ _ h
theorem Lies.more(k:∀b o,H b=some o->H' b=some o):∀{ts:Tr},Lies H fw fa ts->Lies H' fw fa ts:=by
 intro ts;induction ts with
 |nil=>exact fun J=>trivial
 |cons _ _ sub r qW pS=>exact fun h=>⟨k _ _ h.1,h.2.1.more k,qW h.2.2.1,pS h.2.2.2⟩
theorem wN.more(h:wN H fw n a)(k:∀b o,H b=some o->H' b=some o):wN H' fw n a:=let ⟨nm,pr,ch,es,ep,f⟩:=h;⟨nm,pr,ch,es,ep,f.more k⟩
theorem sH.more(h:sH H fw fa)(k:∀b o,H b=some o->H' b=some o):sH H' fw fa:=fun n hn=>(h n hn).more k
theorem DS(hd:2<=d)(hf:sH H fw fa)(o:H a=some (Qz fa i))(p:O9 H fw sub i)(k:Q (.int i.w) H):pz Th (pB L) d 13 [.ref a] H Q E:=by
 refine call_of (fn:=E6) (qB hd rfl) rfl rfl ?_;induction i using It.casesOn with
 |chr n c w=>obtain⟨nm,pr,ch,es,ep,fd⟩:=hf n p.1;have g:=fd.o;simp![E6];exact zN (pV hd rfl) fd p.2.2 k
 |yJ w=>have o:H a=some (GS w):=o;simp![E6];exact k
 |uk w h d=>have o:H a=some (Dx w h d):=o;simp![E6];exact k
 |uC l=>have o:H a=some (GU l):=o;simp![E6];exact k
 |box il w h d sh=>simp![E6];exact k
end
theorem xn(a:Int)(r:Nat):sW a (a+((r+1:Nat):Int)) 1=.int a::sW (a+1) (a+1+(r:Int)) 1:=by
 unfold sW;rw[(show(if(1:Int)=1 then(a+((r+1:Nat):Int)) - a else a - (a+((r+1:Nat):Int))).toNat=r+1 by rw[if_pos rfl,d9,dc];rfl),(show(if(1:Int)=1 then(a+1+(r:Int)) - (a+1)else(a+1) - (a+1+(r:Int))).toNat=r by rw[if_pos rfl,d9 (a+1),dc];rfl),j3,bL,dP];congr 1
 ·congr 1;simp
 ·apply iy;intro i _;exact congrArg V.int (by simp only[Nat.succ_eq_add_one];exact Z.o 0x111111086117113811113816117812 [_] [_] rfl)
theorem vQ(a:Int):sW a (a+((0:Nat):Int)) 1=[]:=by unfold sW;rw[if_pos rfl,show a+((0:Nat):Int) - a=0 by rw[d9,dc];rfl];rfl
theorem yK{n:Nat}(h:p.length=n):idx (p++x::q).length (n:Int)=some n/\(p++x::q)[n]? =some x:=by refine⟨sU (by rw[aa,a8];exact Z.o 0x1101138971113a19186 [] [_,_,_] rfl h),?_⟩;rw[fO (cj h),h,gh];rfl
section
variable{L:List Fn}{G H H':MH}{fw:FW}{fa:Int->Addr}{a il:Addr}{w h dd sh:Int}
theorem DT(hd:2<=d)(o:H a=some (va 2 w h dd il sh))(k:Q (.int 0) H):pz Th (pB L) d 22 [.ref a,.int 0] H Q E:=by refine call_of (fn:=SH) (qB hd rfl) rfl rfl ?_;simp![SH];refine .mul ⋯ ⋯ ?_;lia;exact Fi (pV hd rfl) k
theorem B0(hd:3<=d)(hf:sH H fw fa)(o:H a=some (va 2 w h dd il sh))(g:H b=some (Qz fa i))(p:O9 H fw sub i)(k:Q (.int i.w) H):pz Th (pB L) d 23 [.ref a,.ref b] H Q E:=by refine call_of (fn:=SI) (qB hd rfl) rfl rfl ?_;simp![SI];exact DS (pV hd rfl) hf g p k
theorem Ha(o:H a=some (Qz fa i))(q:∀n,n≠6->n≠8->Q (.int n) H):ur Th 31 H Q (.ref a):=by
 induction i using It.casesOn with
 |chr n c w=>exact .cls o rfl rfl (q 0 ⋯ ⋯)
 |yJ w=>exact .cls o rfl rfl (q 5 ⋯ ⋯)
 |uk w h d=>exact .cls o rfl rfl (q 4 ⋯ ⋯)
 |uC l=>exact .cls o rfl rfl (q 13 ⋯ ⋯)
 |box il w h d sh=>exact .own o rfl (q 2 ⋯ ⋯)
theorem DU(hd:3<=d)(hf:sH G fw fa)(o:G a=some (va 2 w h dd il sh))(nf:G f=none)(yL:G il=some (.list l0)):∀(ts:Tr) (x:Int) (pre:List Int) (q:V),Lies G fw fa ts->pre.length+rS ts<=pq->
  (∀q x',K .next [.ref a,.ref f,.int x',.int 0,q] (G.upd f (.list (iL (pre++DQ x ts)))))->
  rY (lp Th (pz Th (pB L) d) (.v 4) (qk (qY K8.body 3)) E) (fun H'=>H' il=some (.list l0)) (AN ts) [.ref a,.ref f,.int x,.int 0,q] (G.upd f (.list (iL pre))) K:=by
 intro ts;induction ts with
 |nil=>exact fun x pre q J J k=>by have:=k q x;rw[show pre++DQ x .nil=pre from aO _]at this;exact⟨pj (px nf yL) yL,this⟩
 |cons b i sub r _ pS=>exact fun x pre q hs hl k=>by refine pQ (ok:=fun H'=>H' il=some (.list l0)) (pj (px nf yL) yL) fun R hR=>?_;have mono:∀c o',G c=some o'->(G.upd f (.list (iL pre))) c=some o':=fun c o' e=>pj (px nf e) e;simp![lp,K8,qY,qk];refine Ha (mono _ _ hs.1) fun n n6 J=>?_;lia;refine tD n6 ?_;lia;refine B0 (qB hd rfl) (hf.more mono) (mono _ _ o) (mono _ _ hs.1) (hs.2.1.more mono) ?_;lia;refine DT (qB hd rfl) (mono _ _ o) ?_;lia;refine⟨_,up_eq,qS.app (by rw[ah];exact ae (aC _ _) hl) ?_⟩;rw[cG,qZ,pF];refine hR _ _ (pS _ _ _ hs.2.2.2 (by rw[aa,aQ,bk _ (rS r)];exact hl) fun q x'=>?_);rw[ax];exact k q x'
theorem II(hd:4<=d)(hf:sH H fw fa)(o:H a=some (va 2 w h dd il sh))(yL:H il=some (.list (AN ts)))(hs:Lies H fw fa ts)(hl:1+rS ts<=pq)
  (k:∀f,H f=none->Q (.ref f) (H.upd f (.list (iL (0::DQ 0 ts))))):pz Th (pB L) d 24 [.ref a] H Q E:=by refine call_of (fn:=K8) (qB hd rfl) rfl rfl ?_;simp![K8];intro f nf;have g:=pj (o:=.list [.int 0]) (px nf o) o;lia;refine .lst (pj (o:=.list [.int 0]) (px nf yL) yL) (by rw[BZ];exact ae (bI _ _) hl) ?_;refine DU (pre:=[0]) (pV hd rfl) hf o nf yL ts 0 _ hs hl fun q x'=>?_;exact k f nf
end
section
variable{L:List Fn}{G H H':MH}{fw:FW}{fa:Int->Addr}{a il:Addr}{w h dd sh:Int}
theorem vR(h:n+m<=pq):((n:Int)).natAbs<2^60:=bM (ae (aC _ _) h) ⋯
theorem Fy(hf:sH G fw fa)(o:G a=some (va 2 w h dd il sh))(nf:G f2=none)(yL:G il=some (.list vl))(h1:G f1=some (.list (iL ol))):∀(r:Tr) (x:Int) (n:Nat) (pv:List V) (po:List Int) (acc:List V) (l3 l4 l5 l6 l7:V),vl=pv++AN r->pv.length=n->ol=po++x::DQ x r->po.length=n->acc.length+rS r<=pq->n+1+rS r<=pq->Lies G fw fa r->
  (∀l3 l4 l5 l6 l7,K .next [.ref a,.ref f1,.ref f2,l3,l4,l5,l6,l7] (G.upd f2 (.list (acc++yb x r))))->
  rY (lp Th (pz Th (pB L) d) (.v 3) (qk (qY Lb.body 1)) E) (fun J=>True) (sW n (n+(rS r:Nat)) 1) [.ref a,.ref f1,.ref f2,l3,l4,l5,l6,l7] (G.upd f2 (.list acc)) K:=by
 intro x_;induction x_ with
 |nil=>intro x n pv po acc l3 l4 l5 l6 l7 e1 e2 e3 e4 hl hn hs k;have:=k l3 l4 l5 l6 l7;rw[show acc++yb x .nil=acc from aO _]at this;rw[show rS .nil=0 from rfl,vQ];exact⟨trivial,this⟩
 |cons b i sub r qW ih=>
  intro x n pv po acc l3 l4 l5 l6 l7 e1 e2 e3 e4 hl hn hs k;have g:=hs.1;have p:=hs.2.1;have gr:=hs.2.2.2;rw[show rS (.cons b i sub r)=rS r+1 from rfl,xn];refine pQ trivial fun R hR=>?_;have mono:∀c o',G c=some o'->(G.upd f2 (.list acc)) c=some o':=fun c o' e=>pj (px nf e) e;have g':=mono _ _ g;have o':=mono _ _ o;have h1':=mono _ _ h1;have ao0:=mono _ _ yL;have e3':ol=(po++[x])++(x+i.w)::DQ (x+i.w) r:=by rw[e3,ax];rfl
  have e4':(po++[x]).length=n+1:=by rw[aa,e4];rfl
  have i1:idx vl.length (n:Int)=some n/\vl[n]? =some (.ref b):=e1▸(yK e2);have i2:idx (iL ol).length (n:Int)=some n/\(iL ol)[n]? =some (.int x):=by rw[e3,iL,aG];exact yK (by rw[ah];exact e4)
  have i3:idx (iL ol).length ((n+1:Nat):Int)=some (n+1)/\(iL ol)[n+1]? =some (.int (x+i.w)):=by rw[e3',iL,aG];exact yK (by rw[ah];exact e4')
  have n1:((n:Int)).natAbs<2^60:=vR (m:=1+rS (.cons b i sub r)) (by rw[<-aQ];exact hn);have n2:(((n+1:Nat):Int)).natAbs<2^60:=vR hn;simp![lp,Lb,qY,qk];refine .lst ao0 n1 i1.1 i1.2 ?_;lia;refine .lst h1' n1 i2.1 i2.2 ?_;lia;refine Ha g' fun m J m8=>?_;lia;refine tD m8 ?_;lia;refine .lst h1' n2 i3.1 i3.2 ?_;refine⟨_,up_eq,qS.app (ae (aC _ _) hl) ?_⟩;rw[pF];refine hR _ _ ?_;have:=ih (x+i.w) (n+1) (pv++[.ref b]) (po++[x]) (acc++[.tup [.ref b,.int x,.int (x+i.w)]]) (.int n) (.ref b) (.int x) l6 l7 (by rw[e1,ax];rfl) (by rw[aa,e2];rfl) e3' e4' (by rw[aa,aQ,bk _ (rS r)];exact hl) (by rw[aQ,bk 1];exact hn) gr fun l3 l4 l5 l6 l7=>by rw[ax];exact k l3 l4 l5 l6 l7
  exact this
theorem yr(hd:5<=d)(hf:sH H fw fa)(o:H a=some (va 2 w h dd il sh))(yL:H il=some (.list (AN ts)))(hs:Lies H fw fa ts)(hl:1+rS ts<=pq)
  (k:∀H' r,H r=none->(∀b o,H b=some o->H' b=some o)->H' r=some (.list (yb 0 ts))->Q (.ref r) H'):pz Th (pB L) d 45 [.ref a] H Q E:=by
 refine call_of (fn:=Lb) (qB hd rfl) rfl rfl ?_;simp![Lb];refine II (pV hd rfl) hf o yL hs hl fun f1 nf1=>?_;have m1:∀b o',H b=some o'->(H.upd f1 (.list (iL (0::DQ 0 ts)))) b=some o':=fun b o' e=>pj (px nf1 e) e;intro f2 nf2;have m2:∀b o',H b=some o'->((H.upd f1 (.list (iL (0::DQ 0 ts)))).upd f2 (.list [])) b=some o':=fun b o' e=>pj (px nf2 (m1 b o' e)) (m1 b o' e);have o':=m2 _ _ o;lia;refine .ud (m2 _ _ yL) (by rw[BZ];exact ae (bI _ _) hl) ?_;rw[BZ];refine .CL (vR (n:=rS ts) (m:=1) (by rw[bk];exact hl)) (.Ak (.inl rfl) ⋯ (vR (n:=rS ts) (m:=1) (by rw[bk];exact hl)) ?_);have:=Fy (L:=L) (d:=d - 1) (E:=E) (hf.more m1) (m1 _ _ o) nf2 (m1 _ _ yL) up_eq ts 0 0 [] [] [] .rG .rG .rG .rG .rG rfl rfl rfl rfl (ae (cj (cJ _)) (ae (bI _ 1) hl)) (by rw[cJ];exact hl) (hs.more m1) (K:=kc (rest Th (pz Th (pB L) (d - 1)) (.cons (.ret (.v 2)) .nil) (rK Q) E) (rK Q)) fun l3 l4 l5 l6 l7=>by exact k _ f2 (pA nf2).2 (fun b o' e=>pj (px nf2 (m1 b o' e)) (m1 b o' e)) up_eq
 have this:=(show(((0:Nat):Int)+(rS ts:Nat))=(rS ts:Int)from c8 _)▸this;exact this
end
structure SS where
 F:PF
 es:Es
 rO:List (Int×Int×Nat)
 rows:List V
def SS.ps(x:SS)(n:List Cell):PS:=⟨x.F,n,x.es,x.rO,x.rows⟩
noncomputable def SS.to(x:SS)(h v fn:Int)(es:Es)(rows:List V):SS:=⟨⟨h,v,fn,x.F.dp⟩,es,x.rO,rows⟩
noncomputable def SS.uo(x:SS):SS:=⟨x.F,x.es,(x.F.h,x.F.v,x.rows.length)::x.rO,x.rows⟩
noncomputable def It.sh:It->Int
 | .chr _ _ _=>0
 | .yJ _=>0
 | .uk _ _ _=>0
 | .uC _=>0
 | .box _ _ _ _ sh=>sh
noncomputable def rF(D:Int)(s s2:SS):SS:=if s2.rows.length=s.rows.length then s else⟨⟨s.F.h,s.F.v,s2.F.fn,max s2.F.dp (D+1)⟩,s2.es,s.rO,s2.rows⟩
def B1(fa:Int->Addr)(x y:Int)(s inner:SS):It->SS
 | .chr n k w=>s.to (x+w) y n (AM fa n s.es) (s.rows++[DM x y n k])
 | .yJ _=>s
 | .uk w h d=>if 0<h+d/\0<w then s.to (x+w) (y+d) s.F.fn s.es (s.rows++[DN x (y+d) (h+d) w])else s
 | .uC l=>s.to x y s.F.fn s.es (s.rows++[BX x y l])
 | .box _ _ _ _ _=>inner
def uG(fa:Int->Addr):Tr->Int->Int->Int->Int->SS->SS
 | .nil,_,_,_,_,s=>s
 | .cons _ i sub r,X,Y,D,x,s=>uG fa r X Y D (x+i.w) (B1 fa (X+x) Y s (rF D s (uG fa sub (X+x) (Y+i.sh) (D+1) 0 s.uo)) i)
structure Ext(s s':SS):Prop where
 le:s.rows.length<=s'.rows.length
 rO:s'.rO=s.rO
 eq:s'.rows.length=s.rows.length->s'=s
theorem Ext.refl(s:SS):Ext s s:=⟨aF _,rfl,fun J=>rfl⟩
theorem Ext.trans(h:Ext a b)(g:Ext b c):Ext a c:=
 ⟨ae h.le g.le,g.rO.trans h.rO,fun e=>by
  have e2:=h.eq (fT (e▸g.le) h.le)
  repeat first|clear a|clear b|clear c|clear h|clear (fT (e▸g.le) h.le)
  subst e2
  exact g.eq e⟩
theorem Ext.more:Ext s (s.to h v fn es (s.rows++[r])):=by exact⟨aa▸bA _,rfl,fun z=>absurd (aa.symm.trans z) (fH _)⟩
theorem Ext.box(h:Ext s.uo s2):Ext s (rF D s s2):=by
 unfold rF;split
 ·exact .refl s
 ·rename_i n;exact⟨h.le,rfl,fun z=>absurd z n⟩
theorem Ext.ite[Decidable p](h:Ext s a)(g:Ext s b):Ext s (if p then a else b):=by split<;>assumption
theorem Hb(h:Ext s inner):∀i,Ext s (B1 fa x y s inner i)
 | .chr _ _ _=>.more
 | .yJ _=>.refl s
 | .uk _ _ _=>.ite .more (.refl s)
 | .uC _=>.more
 | .box _ _ _ _ _=>h
theorem xp:∀(ts:Tr) (X Y D x:Int) (s:SS),Ext s (uG fa ts X Y D x s):=by
 intro ts;induction ts with
 |nil=>exact fun J J J J s=>.refl s
 |cons _ i sub r qW pS=>exact fun X Y D x s=>(Hb (.box (qW _ _ _ _ s.uo)) i).trans (pS _ _ _ _ _)
def bdI(x y:Int):It->Prop
 | .chr _ _ w=>qc x/\qc y/\qc (x+w)
 | .yJ _=>True
 | .uk w h d=>Sm (h+d)/\Sm w/\qc x/\qc (y+d)/\qc (x+w)
 | .uC _=>qc x/\qc y
 | .box _ _ _ _ _=>True
def QC:Tr->Int->Int->Int->Prop
 | .nil,_,_,_=>True
 | .cons _ i sub r,X,Y,x=>bdI (X+x) Y i/\QC sub (X+x) (Y+i.sh) 0/\QC r X Y (x+i.w)
noncomputable def zS:It->Nat
 | .chr _ _ _=>31
 | .yJ _=>1
 | .uk _ _ _=>19
 | .uC l=>15+l.length
 | .box _ _ _ _ _=>2
def tq:Tr->Nat
 | .nil=>0
 | .cons _ i sub r=>zS i+tq sub+tq r
def DV:Tr->Nat
 | .nil=>0
 | .cons _ _ sub r=>max (DV sub+1) (DV r)
theorem ve:∀(cells:List Cell) (off:Nat),pX (k+off) cells=(pX off cells).map (k+·):=by
 intro cells;induction cells with
 |nil=>exact fun J=>rfl
 |cons z2 r Va=>
  induction z2 with
  |row d sz s e=>exact fun off=>by show pX (k+off+_) r=(pX (off+_) r).map _;rw[aQ];exact Va _
  |seg l=>exact fun off=>by show pX (k+off+_) r=(pX (off+_) r).map _;rw[aQ];exact Va _
  |push=>exact fun off=>congrArg (List.cons (k+(off+1))) (Va (off+1))
theorem Fz(h:pX off a=pX off b)(o:Nat):pX o a=pX o b:=by rw[<-hZ off,ve,ve,lx fun J J=>Nat.add_left_cancel]at h;rw[<-hZ o,ve,ve,h]
theorem B3:∀ts:Tr,rS ts<=tq ts:=by
 intro ts;induction ts with
 |nil=>exact aF _
 |cons _ i sub r _ pS=>exact by exact ae (dZ (pS) (show 1<=zS i by induction i using It.casesOn<;>first|exact av rfl|exact ae (av rfl) (aC 15 _))) (by rw[bk];exact bB (aC _ _) _)
theorem QD(hl:h+b+(t+2)<=l):h+b+1<=l/\h+(b+1)+t<=l/\∀b',b'<=b+1+t->h+b'+1<=l:=⟨(Z.ofm _ hl),Z.o 0x11112b213a1981151ba113918115 [] [_,_,_,_] rfl hl,fun b' h'=>Z.o 0x1111113c113b1195a213c1b81152a11398115 [] [_,_,_,_,_] rfl hl h'⟩
theorem X2(h:7+k<=d):6+k<=d - 1:=Z.s1 (Z.o 0x111129871315191138613115 [] [_,_] rfl h)
section
variable{c:Cn}{H H' G:MH}{s:PS}
theorem Pg.grow(h:Pg c H s)(k:∀b o,H b=some o->H' b=some o):∃G,(∀b o,c.H0 b=some o->G b=some o)/\(∀b o,H b=none->H' b=some o->G b=some o)/\Pg {c with H0:=G} H' s:=by obtain⟨⟨rs,g,e⟩,x1,x2,x3,x4,x5⟩:=h;refine⟨Qx c.A rs H',fun b o z=>GX (g.out z) (k _ _ (g.old _ _ z)),fun b o z z'=>GX (fun q=>?_) z',⟨rs,(g.more k).Qx,e⟩,x1,x2,x3,x4,x5⟩;obtain⟨o,y⟩:=g.there q;rw[z]at y;exact Z.nS y
theorem Pg.weak(h:Pg {c with H0:=G} H s)(k:∀b o,c.H0 b=some o->G b=some o):Pg c H s:=by obtain⟨⟨rs,g,e⟩,x1,x2,x3,x4,x5⟩:=h;exact⟨⟨rs,g.weak k,e⟩,x1,x2,x3,x4,x5⟩
end
def Hc(L:List Fn)(ts:Tr):Prop:=∀(d:Nat) (c:Cn) (H:MH) (s:SS) (n:List Cell) (a il fr:Addr) (w h dd sh X Y D x:Int) (beg l7 l8 l9 B4 MS MT MU MV:V) (vl:List V) (K:QF) (E:QE),
 6+DV ts<=d->sH c.H0 c.fw c.fa->c.H0 a=some (va 2 w h dd il sh)->Lies c.H0 c.fw c.fa ts->D+DV ts<=c.A.D->0<=D->(s.rO.length:Int)=D->QC ts X Y x->c.hdr.length+pL n+tq ts<=pq->c.H0 fr=some (.list vl)->Pg c H (s.ps n)->
 (∀H' n' l7 l8 l9 B4 MS MT MU MV,Pg c H' ((uG c.fa ts X Y D x s).ps n')->uF (s.ps n) ((uG c.fa ts X Y D x s).ps n') (tq ts)->((uG c.fa ts X Y D x s).rows.length=s.rows.length->n'=n)->K .next [.ref c.A.pg,.ref a,.int X,.int Y,.int D,beg,.bool false,l7,l8,l9,B4,MS,MT,MU,MV] H')->
 rY (lp Th (pz Th (pB L) d) (.v 7) (qk (qY Fb.body 2)) E) (fun H'=>H' fr=some (.list vl)) (yb x ts) [.ref c.A.pg,.ref a,.int X,.int Y,.int D,beg,.bool false,l7,l8,l9,B4,MS,MT,MU,MV] H K
section
variable{L:List Fn}{c:Cn}{H:MH}{s:SS}{n:List Cell}{a il:Addr}{w h dd sh:Int}{ts:Tr}
theorem Ui{X Y D:Int}(ih:Hc L ts)(hd:7+DV ts<=d)(hf:sH c.H0 c.fw c.fa)(ho:c.H0 a=some (va 2 w h dd il sh))(yL:c.H0 il=some (.list (AN ts)))(hs:Lies c.H0 c.fw c.fa ts)(hD:D+DV ts<=c.A.D)(h0:0<D)(HR:(s.rO.length:Int)+1=D)(bd:QC ts X Y 0)(hl:c.hdr.length+pL n+(tq ts+2)<=pq)(hp:Pg c H (s.ps n))
  (K:∀H' n' F,H' c.A.pg=some (LX c.A F)->Pg c (H'.upd c.A.pg (LX c.A ⟨s.F.h,s.F.v,F.fn,F.dp⟩)) ((rF (D - 1) s (uG c.fa ts X Y D 0 s.uo)).ps n')->uF (s.ps n) ((rF (D - 1) s (uG c.fa ts X Y D 0 s.uo)).ps n') (tq ts+2)->((rF (D - 1) s (uG c.fa ts X Y D 0 s.uo)).rows.length=s.rows.length->n'=n)->Q .none H'):
  pz Th (pB L) d 48 [.ref c.A.pg,.ref a,.int X,.int Y,.int D] H Q E:=by
 have g0:=hp.obj;have MW:7<=d:=ae (aC _ _) hd;refine call_of (fn:=Fb) (qB MW rfl) rfl rfl ?_;simp![Fb];have rm:=QD hl;have l1:1+rS ts<=pq:=ae (aZ (B3 ts) 1) (ae (bB (bI 1 _) _) rm.2.1);refine O8 (pV MW rfl) hp (aT (dB (bU _)) hD) h0 rm.1 fun H1 h1=>?_;have a1:=h1.old _ _ ho;lia;refine yr (pV MW rfl) (hf.more h1.old) a1 (h1.old _ _ yL) (hs.more h1.old) l1 fun H2 fr nf k2 Er=>?_;obtain⟨G,xf⟩:=h1.grow k2;refine .lst Er (by rw[zR];exact ae (bI _ _) l1) ?_;refine ih (d - 1) {c with H0:=G} H2 s.uo (n++[Cell.push]) a il fr w h dd sh X Y D 0 _ _ _ _ _ _ _ _ _ _ _ E (X2 hd) (hf.more xf.1) (xf.1 _ _ ho) (hs.more xf.1) hD (b7 h0) HR bd (uO▸rm.2.1) (xf.2.1 _ _ nf Er) xf.2.2 fun H3 n3 l7 l8 l9 B4 MS MT MU MV h3 r3 e3=>?_;have h3:=h3.weak xf.1;have g3:=h3.obj;have ext:=xp (fa:=c.fa) ts X Y D 0 s.uo;lia;by_cases hr:(uG c.fa ts X Y D 0 s.uo).rows.length=s.rows.length
 ·have en:=e3 hr;have es:=ext.eq hr;rw[rF,if_pos hr]at K;subst en;have h3':Pg c H3 (s.ps n).uo:=by rw[es]at h3;exact h3
  refine IG (s:=s.ps n) (pV MW rfl) h3' (fun H' g=>⟨g,hp.ci,hp.run,hp.bh,hp.bv,hp.ea⟩) h0 rm.1 fun H4 h4=>?_;exact K H4 n s.F h4.obj ((x6 h4.obj).symm▸h4) ⟨fun J=>rfl,aC _ _⟩ fun J=>rfl
 ·have lt:s.rows.length<(uG c.fa ts X Y D 0 s.uo).rows.length:=Nat.lt_of_le_of_ne ext.le (Ne.symm hr);rw[rF,if_neg hr]at K;have bg:pX c.hdr.length n3=pX c.hdr.length n++[c.hdr.length+pL n+1]:=(r3.bg _).trans DP;have ln:pL n3<=pL n+1+tq ts:=ae r3.ln (uO▸(aF _));refine L3 (pV MW rfl) h3 ext.rO HR.symm bg lt hp.bh hp.bv (rm.2.2 _ ln) fun H4 n4 q1 q2 q3 q4=>?_;have e1:D - 1+1=D:=fc D 1;rw[e1]at K;exact K H4 n4 _ q1 q2 ⟨fun o=>Fz q3 o,ae q4 (by rw[<-aQ];exact dC (ae ln (by rw[aQ,bk 1];exact aF _)))⟩ fun z=>absurd z hr
end
theorem Pg.fresh(h:Pg c H s)(hr:H r=none):Pg c (H.upd r o) s:=by obtain⟨⟨rs,g,e⟩,x1,x2,x3,x4,x5⟩:=h;exact⟨⟨rs,g.more fun b o e=>pj (px hr e) e,e⟩,x1,x2,x3,x4,x5⟩
noncomputable def L4(b:Addr)(x y:Int):It->Tr->List V
 | .box _ _ _ _ sh,.cons _ _ _ _=>[.tup [.ref b,.int x,.int (y+sh),.bool false]]
 |_,_=>[]
def L5(fa:Int->Addr)(x y:Int)(s:SS):It->SS
 | .box _ _ _ _ _=>s
 |i=>B1 fa x y s s i
theorem B5:(l++[x]).length≠l.length:=fun z=>fH _ (aa.symm.trans z)
section
variable{L:List Fn}{c:Cn}{H:MH}{s:SS}{n:List Cell}{a b il:Addr}{w h dd sh:Int}{sub:Tr}
theorem B6(hd:1<=d)(ho:H a=some (va 2 w h dd il sh))(hb:H b=some (Dx w' h' d'))(k:Q (.tup [.int w',.int h',.int d']) H):pz Th (pB L) d 19 [.ref b,.ref a] H Q E:=by refine call_of (fn:=SG) (qB hd rfl) rfl rfl ?_;simp![SG];exact k
theorem IJ{X Y x:Int}(hd:6<=d)(hf:sH c.H0 c.fw c.fa)(ho:c.H0 a=some (va 2 w h dd il sh))(hb:c.H0 b=some (Qz c.fa i))(hi:O9 c.H0 c.fw sub i)(bd:bdI (X+x) Y i)(hl:c.hdr.length+pL n+zS i<=pq)(hp:Pg c H (s.ps n))
  (K:∀H1 n' r,Pg c H1 ((L5 c.fa (X+x) Y s i).ps n')->uF (s.ps n) ((L5 c.fa (X+x) Y s i).ps n') (zS i)->((L5 c.fa (X+x) Y s i).rows.length=s.rows.length->n'=n)->H1 r=none->Q (.ref r) (H1.upd r (.list (L4 b (X+x) Y i sub)))):
  pz Th (pB L) d 46 [.ref c.A.pg,.ref a,.tup [.ref b,.int x,.int (x+i.w)],.int X,.int Y] H Q E:=by
 have g0:=hp.obj;refine call_of (fn:=E9) (qB hd rfl) rfl rfl ?_;induction i using It.casesOn with
 |chr m k w=>have b0:=hp.old _ _ hb;simp![E9];refine IE (pV hd rfl) (hf _ hi.1) hi.2.2 hi.2.1 hp hl (fun H' J z=>absurd bd z) fun J J J H1 n1 h1 r1=>?_;exact fun r hr=>K H1 n1 r h1 r1 (fun z=>absurd z B5) hr
 |yJ w=>have b0:H b=some (GS w):=hp.old _ _ hb;simp![E9];refine .Ju (l:=[5,6,7,9,10,11,12]) (tD ⋯ ?_);exact fun r hr=>K H n r hp ⟨fun J=>rfl,aC _ _⟩ (fun J=>rfl) hr
 |uk w' h' d'=>
  have b0:H b=some (Dx w' h' d'):=hp.old _ _ hb;simp![E9];refine B6 (pV hd rfl) (hp.old _ _ ho) b0 ?_;lia;simp only[L5,B1]at K;refine O6 (pV hd rfl) hp hl (fun H' J z=>absurd ⟨bd.1,bd.2.1,fun J J=>bd.2.2⟩ z) (fun z=>?_) fun z1 z2 J J J H1 n1 h1 r1=>?_
  ·have K:=(if_neg z)▸K;exact fun r hr=>K H n r hp ⟨fun J=>rfl,aC _ _⟩ (fun J=>rfl) hr
  ·rw[if_pos ⟨z1,z2⟩]at K;exact fun r hr=>K H1 n1 r h1 r1 (fun z=>absurd z B5) hr
 |uC l=>have b0:H b=some (GU l):=hp.old _ _ hb;simp![E9];refine Fw (pV hd rfl) hi.1 hi.2 hp (by rw[aQ];exact hl) (fun H' J z=>absurd bd z) fun J J H1 n1 h1 r1=>?_;exact fun r hr=>K H1 n1 r h1 ⟨r1.bg,ae r1.ln (aZ (bB ⋯ _) _)⟩ (fun z=>absurd z B5) hr
 |box X3 w' h' d' X4=>
  have b0:H b=some (va 2 w' h' d' X3 X4):=hp.old _ _ hb;have l0:=hp.old _ _ hi;simp![E9];refine fun e he=>?_;have l1:=pj (o:=.list []) (px he l0) l0;have b1:=pj (o:=.list []) (px he b0) b0;have p1:=hp.fresh (o:=.list []) he;induction sub using Tr.casesOn with
  |nil=>refine .MN (.ref l1 up_eq .nil) (Lu ?_);lia;exact fun r hr=>K _ n r p1 ⟨fun J=>rfl,aC _ _⟩ (fun J=>rfl) hr
  |cons b' i' s' r'=>refine .VQ l1 up_eq (brT ?_);lia;exact fun r hr=>K _ n r p1 ⟨fun J=>rfl,aC _ _⟩ (fun J=>rfl) hr
end
theorem Uj:∀(i:It) (sub:Tr),(∃il w h d sh,i=.box il w h d sh/\∃b x y z,sub=.cons b x y z)\/((∀b x y,L4 b x y i sub=[])/\∀fa x y D s X Y,B1 fa x y s (rF D s (uG fa sub X Y (D+1) 0 s.uo)) i=L5 fa x y s i)
 | .chr _ _ _,_=>.inr ⟨fun J J J=>rfl,fun J J J J J J J=>rfl⟩
 | .yJ _,_=>.inr ⟨fun J J J=>rfl,fun J J J J J J J=>rfl⟩
 | .uk _ _ _,_=>.inr ⟨fun J J J=>rfl,fun J J J J J J J=>rfl⟩
 | .uC _,_=>.inr ⟨fun J J J=>rfl,fun J J J J J J J=>rfl⟩
 | .box _ _ _ _ _,.nil=>.inr ⟨fun J J J=>rfl,fun J J J J J J J=>if_pos rfl⟩
 | .box il w h d sh,.cons b x y z=>.inl ⟨il,w,h,d,sh,rfl,b,x,y,z,rfl⟩
theorem X5(h:6+max (a+1) b<=d):6+b<=d/\7+a<=d:=by have h1:=ae (aZ (jR _ _) _) h;exact⟨ae (aZ (gR _ _) _) h,ae (cj (iI 6 1 a)) h1⟩
theorem X6(h:D+((max (a+1) b:Nat):Int)<=m):D+(b:Int)<=m/\D+1+(a:Int)<=m:=by have h1:D+((a+1:Nat):Int)<=m:=aT (dz (bq.mpr (jR _ _)) _) h;exact⟨aT (dz (bq.mpr (gR _ _)) _) h,(by rw[dW,d9 1];exact h1)⟩
theorem X7{h n a b c l:Nat}(hl:h+n+(a+b+c)<=l):h+n+a<=l/\h+n+(b+a)<=l/\∀n',n'<=n+(a+b)->h+n'+c<=l:=⟨Z.o 0x11112bdca11981151ba98115 [] [_,_,_,_,_,_] rfl hl,Z.o 0x11112cdab11981151cba198115 [] [_,_,_,_,_,_] rfl hl,fun n' h'=>Z.o 0x1111113ed1c195baed11c81152ba98115 [] [_,_,_,_,_,_,_] rfl hl h'⟩
section
variable{L:List Fn}
theorem zT:∀ts:Tr,Hc L ts
 | .nil=>fun J J J J J J J J J J J J J J J J J J J J J J J J J J J J J J J J J J J J J Er hp k=>⟨hp.old _ _ Er,k _ _ _ _ _ _ _ _ _ _ hp (.refl _) fun J=>rfl⟩
 | .cons b i sub r=>fun d c H s n a il fr w h dd sh X Y D x beg l7 l8 l9 B4 MS MT MU MV vl K E hd hf ho hs hD h0 HR bd hl Er hp k=>by
  obtain⟨g,p,WX,gr⟩:=hs
  obtain⟨bd1,bd2,bd3⟩:=bd
  have lv:=X5 hd
  have lD:=X6 hD
  have cs:=X7 hl
  have hd6:6<=d:=ae (aC _ _) hd
  refine pQ (ok:=fun H'=>H' fr=some (.list vl)) (hp.old _ _ Er) fun R hR=>?_
  have g0:=hp.obj
  have tail:∀H3 n3 l8 l9 B4 MS MT MU MV q,Pg c H3 ((B1 c.fa (X+x) Y s (rF D s (uG c.fa sub (X+x) (Y+i.sh) (D+1) 0 s.uo)) i).ps n3)->uF (s.ps n) ((B1 c.fa (X+x) Y s (rF D s (uG c.fa sub (X+x) (Y+i.sh) (D+1) 0 s.uo)) i).ps n3) (zS i+tq sub)->((B1 c.fa (X+x) Y s (rF D s (uG c.fa sub (X+x) (Y+i.sh) (D+1) 0 s.uo)) i).rows.length=s.rows.length->n3=n)->R [.ref c.A.pg,.ref a,.int X,.int Y,.int D,beg,.bool false,q,l8,l9,B4,MS,MT,MU,MV] H3:=by
   intro H3 n3 l8 l9 B4 MS MT MU MV q h3 r3 e3
   have x1:=Hb (x:=X+x) (y:=Y) (.box (D:=D) (xp (fa:=c.fa) sub (X+x) (Y+i.sh) (D+1) 0 s.uo)) (fa:=c.fa) i
   have x2:=xp (fa:=c.fa) r X Y D (x+i.w) (B1 c.fa (X+x) Y s (rF D s (uG c.fa sub (X+x) (Y+i.sh) (D+1) 0 s.uo)) i)
   refine hR _ _ (zT r d c H3 _ n3 a il fr w h dd sh X Y D (x+i.w) _ _ _ _ _ _ _ _ _ vl _ E lv.1 hf ho gr lD.1 h0 (by rw[x1.rO];exact HR) bd3 (cs.2.2 _ r3.ln) Er h3 fun H4 n4 l7 l8 l9 B4 MS MT MU MV h4 r4 e4=>k H4 n4 _ _ _ _ _ _ _ _ h4 (r3.trans r4) fun z=>?_)
   have z1:=fT (z▸x2.le) x1.le
   exact(e4 (z.trans z1.symm)).trans (e3 z1)
  simp![lp,Fb,qY,qk]
  refine IJ hd6 hf ho g p bd1 cs.1 hp fun H1 n1 rr h1 r1 e1 hrr=>?_
  lia
  rcases Uj i sub with⟨X3,w',h',d',X4,rfl,b',x',y',z',rfl⟩|⟨ei,es⟩
  ·refine .lst up_eq (av rfl) ?_
   obtain⟨G,G1,G2,h2⟩:=h1.grow (H':=H1.upd rr (.list (L4 b (X+x) Y (.box X3 w' h' d' X4) (.cons b' x' y' z')))) fun J J e=>pj (px hrr e) e
   have gr2:=G2 _ _ hrr up_eq
   have q2:=h2.obj
   refine pQ (ok:=fun H'=>H' rr=some (.list (L4 b (X+x) Y (.box X3 w' h' d' X4) (.cons b' x' y' z')))) up_eq fun R1 hR1=>?_
   simp![lp]
   obtain rfl:n1=n:=e1 rfl
   have rb:=hp.out g
   refine Ui (c:={c with H0:=G}) (H:=H1.upd rr (.list (L4 b (X+x) Y (.box X3 w' h' d' X4) (.cons b' x' y' z')))) (s:=s) (n:=n1) (zT (.cons b' x' y' z')) lv.2 (hf.more G1) (G1 _ _ g) (G1 _ _ p) (WX.more G1) lD.2 (dQ h0) (by rw[HR]) bd2 cs.2.1 h2 fun H3 n3 F q3 h3 r3 e3=>?_
   have e9:D+1 - 1=D:=dc D 1
   rw[e9]at h3 r3 e3
   have o3:=h3.old _ _ gr2
   have h3:=h3.weak G1
   lia
   refine hR1 _ _ ⟨o3,?_⟩
   lia
   exact tail _ n3 _ _ _ _ _ _ _ _ h3 ⟨r3.bg,ae r3.ln (by rw[bk (zS _)];exact aF _)⟩ e3
  ·rw[ei]
   refine .lst up_eq (bW _) ⟨up_eq,?_⟩
   lia
   rw[es]at tail
   exact tail _ n1 _ _ _ _ _ _ _ _ (h1.fresh hrr) ⟨r1.bg,ae r1.ln (aZ (aC _ _) _)⟩ e1
end
section
variable{L:List Fn}{H H':MH}{a il:Addr}{w h dd sh:Int}
theorem AO{X Y:Int}(hd:3<=d)(o:H a=some (va 2 w h dd il sh))(k:qc X->qc Y->tL h [dd,h+dd+Y,w+X]<=1073741823->Q .none H)(k2:¬(qc X/\qc Y/\tL h [dd,h+dd+Y,w+X]<=1073741823)->Ov E H):pz Th (pB L) d 49 [.ref a,.int X,.int Y] H Q E:=by
 refine call_of (fn:=S5) (qB hd rfl) rfl rfl ?_;simp![S5];refine qC (pV hd rfl) (fun b1=>?_) fun z=>k2 fun q=>z q.1;lia;refine qC (pV hd rfl) (fun b2=>?_) fun z=>k2 fun q=>z q.2.1;lia;refine vK (fun z=>?_) fun z=>?_
 ·lia;exact k2 fun q=>d4.mpr z q.2.2
 ·lia;exact k b1 b2 (bJ.mp z)
structure Nw(a:Addr)(H H':MH)(x:Addr)(o y:O):Prop where
 keep:∀b p,b≠a->H b=some p->H' b=some p
 new:H' x=some o
 self:H' a=some y
 none:∀b,H' b=none->H b=none/\b≠a/\b≠x
theorem nw(n:x≠a)(hx:H x=none):Nw a H (((H.upd a z).upd x o).upd a y) x o y:=
 ⟨fun b p e g=>pj e (pj (px hx g) (pj e g)),pj n up_eq,up_eq,fun b e=>⟨(pA (pA (pA e).2).2).2,(pA e).1,(pA (pA e).2).1⟩⟩
theorem nw0(n:x≠a)(hx:H x=none):Nw a H ((H.upd x o).upd a y) x o y:=
 ⟨fun b p e g=>pj e (pj (px hx g) g),pj n up_eq,up_eq,fun b e=>⟨(pA (pA e).2).2,(pA e).1,(pA (pA e).2).1⟩⟩
theorem DL(h1:x≠p)(h2:x≠q):x∉[p,q]:=fun h=>(aA.mp h).elim h1 fun h=>h2 (aI.mp h)
theorem nd2(h:p≠q):[p,q].Nodup:=aW.mpr ⟨fun z=>h (aI.mp z),aW.mpr ⟨(fun z=>nomatch z),nh⟩⟩
theorem IK(hd:2<=d)(ha:H a=none)(hf:H f=some (.dict (wL es) ep))(hl:es.length<=16384)
  (k:∀H' A,A.pg=a->A.D=D->vx H H' A ⟨0,0,-1,0⟩ [] es (fun J=>[])->Q .none H'):pz Th (pB L) d 36 [.ref a,.ref f,.int D] (H.upd a (.inst 553 [])) Q E:=by
 refine call_of (fn:=SW) (qB hd rfl) rfl rfl ?_;simp![SW];intro oc noc;have X8:=pA noc;have n1:=X8.1;have o1:=X8.2;have N1:=nw (z:=.inst 553 []) (o:=.list []) (y:=.inst 553 (put 39 (.ref oc) [])) n1 o1;lia;generalize ((H.upd a (.inst 553 [])).upd oc (.list [])).upd a (.inst 553 (put 39 (.ref oc) []))=H1 at N1 ⊢;have f1:=N1.keep _ _ (px ha hf) hf;refine .dict f1 (by unfold wL;rw[ah];exact hl) fun L6 fd Vc=>?_;have z2:=N1.none _ Vc;have a2:(H1.upd fd (.dict (wL es) L6)) a=some (.inst 553 (put 39 (.ref oc) [])):=pj z2.2.1.symm N1.self;lia;have N2:=nw0 (o:=.dict (wL es) L6) (y:=.inst 553 (put 17 (.int (-1)) (put 69 (.int 0) (put 24 (.int 0) (put 11 (.int D) (put 18 (.ref fd) (put 39 (.ref oc) []))))))) z2.2.1 Vc;generalize (H1.upd fd (.dict (wL es) L6)).upd a (.inst 553 (put 17 (.int (-1)) (put 69 (.int 0) (put 24 (.int 0) (put 11 (.int D) (put 18 (.ref fd) (put 39 (.ref oc) [])))))))=H2 at N2 ⊢;intro m0 HC;have z3:=N2.none _ HC;refine zB (pV hd rfl) fun r0 nr0 Uk=>?_;have z4:=N2.none _ Uk;have N3:=nw0 (H:=H2) (o:=.list []) (y:=.inst 469 [(44,.int 143),(51,.ref r0)]) nr0 Uk;generalize (H2.upd r0 (.list [])).upd m0 (.inst 469 [(44,.int 143),(51,.ref r0)])=H3 at N3 ⊢;have a3:=N3.keep _ _ z3.2.1.symm N2.self;lia;intro m1 nm1;have z5:=pA nm1;refine zB (pV hd rfl) fun r1 L7 Ul=>?_;have z6:=pA Ul;have N4:=nw0 (H:=H3.upd a (.inst 553 (put 0 (.ref m0) (put 17 (.int (-1)) (put 69 (.int 0) (put 24 (.int 0) (put 11 (.int D) (put 18 (.ref fd) (put 39 (.ref oc) []))))))))) (o:=.list []) (y:=.inst 469 [(44,.int 157),(51,.ref r1)]) L7 Ul;generalize ((H3.upd a (.inst 553 (put 0 (.ref m0) (put 17 (.int (-1)) (put 69 (.int 0) (put 24 (.int 0) (put 11 (.int D) (put 18 (.ref fd) (put 39 (.ref oc) []))))))))).upd r1 (.list [])).upd m1 (.inst 469 [(44,.int 157),(51,.ref r1)])=H4 at N4 ⊢;have a4:=N4.keep _ _ z5.1.symm up_eq;lia;have y3:=N1.none _ z3.1;have y4:=N1.none _ z4.1;have w5:=N3.none _ z5.2;have v5:=N2.none _ w5.1;have y5:=N1.none _ v5.1;have w6:=N3.none _ z6.2;have v6:=N2.none _ w6.1;have y6:=N1.none _ v6.1;have y2:=N1.none _ Vc;have keep:∀b o x,b≠a->b≠m0->b≠m1->H2 b=some o->(H4.upd a x) b=some o:=fun b o x h1 h2 h3 e=>pj h1 (N4.keep _ _ h3 (pj h1 (N3.keep _ _ h2 e)));refine k _ ⟨a,oc,fd,fun k=>cond k m1 m0,fun k=>cond k r1 r0,D⟩ rfl rfl ⟨fun b o e=>?_,fun b hb=>?_,up_eq,?_,⟨L6,?_⟩,fun k=>?_,⟨n1.symm,z2.2.1.symm,y2.2.2.symm⟩,fun k=>?_,fun k k' x n h1 h2=>?_⟩
 ·have ba:=px ha e;have e1:=N1.keep _ _ ba e;exact keep _ _ _ ba (px z3.1 e1) (px v5.1 e1) (N2.keep _ _ ba e1)
 ·rcases hb with e|e|e|⟨k,e⟩
  ·exact e▸ha
  ·exact e▸o1
  ·exact e▸y2.1
  ·induction k using aX<;>rcases aA.mp e with e|e
   ·exact e▸y3.1
   ·exact(aI.mp e)▸y4.1
   ·exact e▸y5.1
   ·exact(aI.mp e)▸y6.1
 ·exact keep _ _ _ n1 y3.2.2.symm y5.2.2.symm (N2.keep _ _ n1 N1.new)
 ·exact keep _ _ _ z2.2.1 z3.2.2.symm v5.2.2.symm N2.new
 ·induction k using aX
  ·exact⟨pj z3.2.1 (N4.keep _ _ w5.2.1.symm (pj z3.2.1 N3.self)),pj z4.2.1 (N4.keep _ _ w5.2.2.symm (pj z4.2.1 N3.new)),fun x hx=>(nomatch hx),nd2 nr0.symm⟩
  ·exact⟨pj z5.1 N4.self,pj z6.1 N4.new,fun x hx=>(nomatch hx),nd2 L7.symm⟩
 ·induction k using aX
  ·exact⟨DL z3.2.1.symm z4.2.1.symm,DL y3.2.2.symm y4.2.2.symm,DL z3.2.2.symm z4.2.2.symm⟩
  ·exact⟨DL z5.1.symm z6.1.symm,DL y5.2.2.symm y6.2.2.symm,DL v5.2.2.symm v6.2.2.symm⟩
 ·have key:∀x,x∈[m0,r0]->x∉[m1,r1]:=fun x h=>by
   repeat first|clear d|clear f|clear a|clear es|clear ep|clear D|clear Q|clear E|clear hd|clear ha|clear hf|clear hl|clear fn|clear z|clear o|clear y|clear H|clear (px ha hf)|clear N1|clear f1|clear z2|clear a2|clear N2|clear z3|clear z4|clear N3|clear a3|clear z5|clear z6|clear N4|clear a4|clear y3|clear y4|clear v5|clear y5|clear v6|clear y6|clear y2|clear keep|clear ba|clear e1|clear L6|clear fd|clear Vc|clear r0|clear nr0|clear Uk|clear r1|clear L7|clear Ul|clear b|clear h3|clear e|clear hb|clear hx|clear n1|clear o1
   rcases aA.mp h with rfl|h
   ·exact DL w5.2.1.symm w6.2.1.symm
   ·obtain rfl:=aI.mp h;exact DL w5.2.2.symm w6.2.2.symm
  induction k using aX<;>induction k' using aX
  ·exact n rfl
  ·exact key x h1 h2
  ·exact key x h2 h1
  ·exact n rfl
end
section
variable{L:List Fn}{c:Cn}{H:MH}{s:SS}{n:List Cell}{a il:Addr}{w h dd sh:Int}{ts:Tr}
theorem Pa{X Y:Int}(hd:7+DV ts<=d)(hf:sH c.H0 c.fw c.fa)(ho:c.H0 a=some (va 2 w h dd il sh))(yL:c.H0 il=some (.list (AN ts)))(hs:Lies c.H0 c.fw c.fa ts)(hD:(DV ts:Int)<=c.A.D)(HR:s.rO=[])(bd:QC ts X Y 0)(hl:c.hdr.length+(tq ts+2)<=pq)(hp:Pg c H (s.ps []))
  (K:∀H' n' rs,vx c.H0 H' c.A (uG c.fa ts X Y 0 0 s).F (c.hdr++bytes (pN n')) (uG c.fa ts X Y 0 0 s).es rs->Ao n'->rB c.fw (pN n') (start c.kn) ((uG c.fa ts X Y 0 0 s).ps n').rs->tj c.fa (uG c.fa ts X Y 0 0 s).es->pL n'<=tq ts->uE n'->Q .none H'):
  pz Th (pB L) d 48 [.ref c.A.pg,.ref a,.int X,.int Y,.int 0] H Q E:=by have g0:=hp.obj;have MW:7<=d:=ae (aC _ _) hd;have rm:c.hdr.length+pL []+(tq ts+2)<=pq:=hl;have rm:=QD rm;have a1:=hp.old _ _ ho;refine call_of (fn:=Fb) (qB MW rfl) rfl rfl ?_;simp![Fb];refine L2 (pV MW rfl) hp (aT (bU _) hD) (ae (bA _) rm.1) ?_;lia;refine yr (pV MW rfl) (hf.more hp.old) a1 (hp.old _ _ yL) (hs.more hp.old) (ae (aZ (B3 ts) 1) (ae (bB (bI 1 _) _) rm.2.1)) fun H2 fr nf k2 Er=>?_;obtain⟨G,IL⟩:=hp.grow k2;refine .lst Er (by rw[zR];exact ae (bI _ _) (ae (aZ (B3 ts) 1) (ae (bB (bI 1 _) _) rm.2.1))) ?_;refine zT ts (d - 1) {c with H0:=G} H2 s [] a il fr w h dd sh X Y 0 0 _ _ _ _ _ _ _ _ _ _ _ E (X2 hd) (hf.more IL.1) (IL.1 _ _ ho) (hs.more IL.1) (by rw[c8];exact hD) (cz _) (by refine HR▸?_;rfl) bd (ae (bB (aZ (bW _) _) _) rm.2.1) (IL.2.1 _ _ nf Er) IL.2.2 fun H3 n3 l7 l8 l9 B4 MS MT MU MV h3 r3 e3=>?_;have h3:=h3.weak IL.1;have g3:=h3.obj;lia;refine IH (s:=(uG c.fa ts X Y 0 0 s).ps n3) (pV MW rfl) h3 (rm.2.2 _ (ae (ae r3.ln (cj (cJ _))) (bI _ _))) fun H4 rs g=>?_;exact K H4 n3 rs g h3.ci h3.run h3.ea (ae r3.ln (cj (cJ _))) (zJ (off:=0) (r3.bg 0))
end
noncomputable def vf(cs:List Int):Nat->Nat->List Int
 |0,_=>[]
 |k+1,n=>be 4 (cs.getD n 0)++vf cs k (n+1)
theorem DW(cs:List Int):∀k n,(vf cs k n).length=4*k:=by
 intro k;induction k with
 |zero=>exact fun J=>rfl
 |succ k EA=>exact fun n=>by show(be 4 (cs.getD n 0)++vf cs k (n+1)).length=_;rw[aa,pM,EA,ip,bk]
section
variable{L:List Fn}{G H H0:MH}{b pg oc:Addr}
theorem DX(hd:2<=d)(hp:G pg=some (.inst 553 ((39,.ref oc)::f)))(n1:pg≠oc)(hs:∀x∈cs,Sm x)(Vd:cs.length<=10):∀(k n:Nat) (acc:List Int) (l6:V),n+k<=10->acc.length+4*k<=pq->(∀l6,K .next [l0,l1,.tup (iL cs),l3,l4,.ref pg,l6] (G.upd oc (.list (iL (acc++vf cs k n)))))->
  rY (lp Th (pz Th (pB L) d) (.v 6) (qk (qY Fd.body 4)) E) (fun J=>True) (sW n (n+(k:Nat)) 1) [l0,l1,.tup (iL cs),l3,l4,.ref pg,l6] (G.upd oc (.list (iL acc))) K:=by
 intro x_;induction x_ with
 |zero=>intro n acc l6 _ _ k;have:=k l6;rw[show acc++vf cs 0 n=acc from aO _]at this;rw[vQ];exact⟨trivial,this⟩
 |succ m ih=>
  intro n acc l6 hn hl k;rw[xn];refine pQ trivial fun R hR=>?_;have fin:∀v:Int,cs.getD n 0=v->pz Th (pB L) d 25 [.ref oc,.int v,.int 4] (G.upd oc (.list (iL acc))) (fun J H1=>R [l0,l1,.tup (iL cs),l3,l4,.ref pg,.int n] H1) E:=fun v e=>by refine qf (r:=4) (qB hd rfl) ⋯ (by rw[ah];exact ae (aZ (Nat.le_mul_of_pos_right 4 (cH m)) _) hl) up_eq ?_;rw[pF,<-aG];refine hR _ _ (ih (n+1) _ _ (by rw[aQ,bk 1];exact hn) (by rw[aa,pM,aQ,bk 4];exact hl) fun l6=>?_);rw[<-e,ax];exact k l6
  simp![lp,Fd,qY,qk];refine .rS (by rw[ah];exact ae Vd ⋯) ?_;rw[ah];lia;refine vK (fun z=>?_) fun z=>?_
  ·have z:=bR.mp z;have e3:cs.getD n 0=cs[n]:=by rw[cD,(bc z)];rfl
   lia;refine vr.tup (vR (m:=0) (ae (bC z) (ae Vd ⋯))) (sU (by rw[ah];exact z)) (by rw[bO,(bc z)];rfl) ?_;refine tE (qB hd rfl) (fun J=>?_) fun q=>absurd (hs _ (jD z)) q;exact fin _ e3
  ·have z:=fun q=>z (bR.mpr q);have e3:cs.getD n 0=0:=by rw[cD,kq (Nat.le_of_not_lt z)];rfl
   exact fin _ e3
end
structure WS where
 fo:List Int
 es:Es
 uP:Int
 last:Int
 sO:Int
 wide:Int
 deep:Int
noncomputable def wO(oa da:Addr)(D:Int)(x:WS):O:=.inst 622 [(11,.int D),(39,.ref oa),(18,.ref da),(42,.int x.uP),(32,.int x.last),(67,.int x.sO),(71,.int x.wide),(10,.int x.deep)]
structure Wr(H0 H:MH)(wa oa da:Addr)(D:Int)(x:WS):Prop where
 old:∀b o,H0 b=some o->H b=some o
 new:H0 wa=none/\H0 oa=none/\H0 da=none
 w:H wa=some (wO oa da D x)
 o:H oa=some (.list (iL x.fo))
 d:∃ep,H da=some (.dict (wL x.es) ep)
def wm(cs:List Int)(last:Int):List Int:=139::(vf cs 10 0++be 4 last)
noncomputable def Jh(es:Es):SS:=⟨⟨0,0,-1,0⟩,es,[],[]⟩
def WS.L8(x:WS)(cs:List Int)(h dd w X Y:Int)(n:List Cell)(t:SS):WS:=
 ⟨x.fo++(wm cs x.last++bytes (pN n)++[140]),t.es,x.uP+1,x.fo.length,max x.sO (h+dd+Y),max x.wide (w+X),max x.deep t.F.dp⟩
theorem rV{H:MH}(h:H x=some p)(g:H y=some q)(n:p≠q):x≠y:=fun z=>n (au (h.symm.trans (z▸g)))
theorem FA:qc 0:=by unfold qc;decide
theorem ao1(h:8+k<=d):7+k<=d - 1:=Z.s1 (Z.o 0x111129881315191138713115 [] [_,_] rfl h)
section
variable{L:List Fn}{H0 H:MH}{wa oa da a il:Addr}{D w h dd sh:Int}{x:WS}{ts:Tr}{fw:FW}{fa:Int->Addr}
theorem Pb{d:Nat}{X Y:Int}(hd:8+DV ts<=d)(hw:Wr H0 H wa oa da D x)(hf:sH H0 fw fa)(ho:H0 a=some (va 2 w h dd il sh))(yL:H0 il=some (.list (AN ts)))(hs:Lies H0 fw fa ts)(hD:(DV ts:Int)<=D)(bd:QC ts X (Y+h) 0)(he:tj fa x.es)(hX:qc X)(hY:qc Y)(hm:tL h [dd,h+dd+Y,w+X]<=1073741823)
  (hc:∀z∈cs,Sm z)(Vd:cs.length<=10)(hl:x.fo.length+(50+tq ts)<=pq)
  (K:∀H' Pc n,Wr H0 H' wa oa Pc D (x.L8 cs h dd w X Y n (uG fa ts X (Y+h) 0 0 (Jh x.es)))->Ao n->rB fw (pN n) (start (x.es.map ar)) ((uG fa ts X (Y+h) 0 0 (Jh x.es)).ps n).rs->tj fa (uG fa ts X (Y+h) 0 0 (Jh x.es)).es->pL n<=tq ts->uE n->Q .none H'):
  pz Th (pB L) d 51 [.ref wa,.ref a,.tup (iL cs),.int X,.int Y] H Q E:=by
 have w0:=hw.w;have o0:=hw.o;have a0:=hw.old _ _ ho;obtain⟨ep,d0⟩:=hw.d;have X9:8<=d:=ae (aC _ _) hd;refine call_of (fn:=Fd) (qB X9 rfl) rfl rfl ?_;simp![Fd];refine .rS (by rw[ah];exact ae Vd ⋯) ?_;rw[ah];lia;refine tD (Z.Vx Vd rfl) ?_;lia;refine AO (pV X9 rfl) a0 (fun J J J=>?_) fun z=>absurd ⟨hX,hY,hm⟩ z;lia;intro pg npg;refine IK (pV X9 rfl) npg d0 (ae he.len ⋯) fun H1 A e1 e2 g1=>?_;subst e1;have p1:=g1.pg;have c1:=g1.oc;lia;have n1:=g1.d1.1;refine⟨_,c1,qS.app ⋯ ?_⟩;lia;refine .CL ⋯ (.Ak (.inl rfl) ⋯ ⋯ ?_);have lc:(vf cs 10 0).length=40:=DW cs 10 0;have:=DX (L:=L) (d:=d - 1) (E:=E) (l0:=.ref wa) (l1:=.ref a) (l3:=.int X) (l4:=.int Y) (pV X9 rfl) p1 n1 hc Vd 10 0 [139] .rG (aF _) (av rfl) (K:=kc (rest Th (pz Th (pB L) (d - 1)) (match Fd.body with| .cons _ (.cons _ (.cons _ (.cons _ (.cons _ r))))=>r|r=>r) (rK Q) E) (rK Q)) fun l6=>?_
 ·exact this
 have fz:∀b p,H b=some p->b≠A.pg/\b≠A.oc/\b≠A.fd:=fun b p e=>⟨fun z=>g1.out e (.inl z),fun z=>g1.out e (.inr (.inl z)),fun z=>g1.out e (.inr (.inr (.inl z)))⟩;have wn:=(fz _ _ w0).2.1;have an:=(fz _ _ a0).2.1;have w1:=g1.old _ _ w0;have a1:=g1.old _ _ a0;simp![Fd];refine qf (r:=4) (l:=iL ([139]++vf cs 10 0)) (pV X9 rfl) ⋯ (by rw[ah,aa,lc];decide) up_eq ?_;rw[pF,<-aG,show[139]++vf cs 10 0++be 4 x.last=wm cs x.last from rfl];lia;have lh:(wm cs x.last).length=45:=by show(vf cs 10 0++be 4 x.last).length+1=45;rw[aa,lc,pM]
 have hp:Pg ⟨fw,x.es.map ar,H,A,wm cs x.last,fa⟩ (H1.upd A.oc (.list (iL (wm cs x.last)))) ((Jh x.es).ps []):=by refine⟨⟨fun J=>[],?_,fun J=>rfl⟩,⟨trivial,fun J J=>trivial,fun J J=>trivial⟩,.nil,FA,FA,he⟩;have e0:wm cs x.last++bytes (pN [])=wm cs x.last:=aO _;show vx H (H1.upd A.oc (.list (iL (wm cs x.last)))) A ⟨0,0,-1,0⟩ (wm cs x.last++bytes (pN [])) x.es _;exact e0▸(g1.DI _)
 refine Pa (c:=⟨fw,x.es.map ar,H,A,wm cs x.last,fa⟩) (s:=Jh x.es) (ao1 hd) (hf.more hw.old) a0 (hw.old _ _ yL) (hs.more hw.old) (e2▸hD) rfl bd (by show(wm cs x.last).length+_<=_;refine lh▸?_;exact Z.o 0x111129823231a151921381d22315 [] [_,_,_] rfl hl) hp fun H2 n rs g2 ci run tK ln np=>?_;have p2:H2 A.pg=some (LX A (uG fa ts X (Y+h) 0 0 (Jh x.es)).F):=g2.pg;have c2:H2 A.oc=some (.list (iL (wm cs x.last++bytes (pN n)))):=g2.oc;have w2:=g2.old _ _ w0;have o2:=g2.old _ _ o0;have a2:=g2.old _ _ a0;have on:=(fz _ _ o0).2.1;have wpn:=(fz _ _ w0).1;have lp:(wm cs x.last++bytes (pN n)).length<=45+tq ts:=by refine aa.symm▸?_;refine lh.symm▸?_;exact aZ ln 45
 lia;refine⟨_,c2,qS.app (by rw[ah];exact Z.o 0x1111113bd2231859b23231a152985 [] [_,_,_,_] rfl hl lp) ?_⟩;rw[qZ];lia;refine .ud (pj on o2) (by rw[ah];exact Z.off _ hl) ?_;rw[ah];have wo:wa≠oa:=rV w0 o0 nofun;have oo:=wo.symm;have po:=(fz _ _ o0).1.symm;have aw:a≠wa:=rV a0 w0 nofun;have ao:a≠oa:=rV a0 o0 nofun;lia;refine⟨_,pj oo (pj on o2),qS.VS (b:=A.oc) (pj wn.symm up_eq) (by rw[ah,ah,aa];show _+(_+1)<=_;exact Z.o 0x1111113bd223195ab232318152a11391815 [] [_,_,_,_] rfl hl lp) on ?_⟩;rw[<-aG];lia;rw[Bk,Bk,Bk];have fw':=(fz _ _ w0).2.2.symm;have fo:=(fz _ _ o0).2.2.symm;obtain⟨L6,f2⟩:=g2.fd;have key:∀b o z1 z2 z3 z4,b≠wa->b≠oa->b≠A.oc->H2 b=some o->((((H2.upd A.oc z1).upd wa z2).upd oa z3).upd wa z4) b=some o:=fun b o J J J J h1 h2 h3 e=>pj h1 (pj h2 (pj h1 (pj h3 e)));refine K _ A.fd n ⟨fun b o e=>key _ _ _ _ _ _ (px hw.new.1 e) (px hw.new.2.1 e) (fz _ _ (hw.old _ _ e)).2.1 (g2.old _ _ (hw.old _ _ e)),⟨hw.new.1,hw.new.2.1,?_⟩,up_eq,pj oo up_eq,⟨L6,key _ _ _ _ _ _ fw' fo g1.d1.2.2.symm f2⟩⟩ ci run tK ln np;cases e:H0 A.fd with
 |none=>rfl
 |some o=>exact absurd rfl (fz _ _ (hw.old _ _ e)).2.2
end
noncomputable def glue:List Nat:=[103,108,117,101,112,97,103,101]
noncomputable abbrev nI(l:List Nat):List Int:=l.map fun c:Nat=>(c:Int)
def B7:List Int:=[247,2]++units++[8]++nI glue
def ws0:WS:=⟨B7,[],0,-1,0,0,0⟩
noncomputable def chS(c:Nat):V:=.str ⟨#[c]⟩
section
variable{L:List Fn}{H0 H:MH}{wa oa da:Addr}{D:Int}{x:WS}{fw:FW}{fa:Int->Addr}
theorem IM{G:MH}(hw:G wa=some (.inst 622 f))(hf:look 39 f=some (.ref oa))(n:wa≠oa):∀(cs:List Nat) (acc:List Int) (l2:V),acc.length+cs.length<=pq->(∀l2,K .next [.ref wa,l1,l2] (G.upd oa (.list (iL (acc++nI cs)))))->
  rY (lp Th (pz Th (pB L) d) (.v 2) (qk (qY Fc.body 5)) E) (fun J=>True) (cs.map chS) [.ref wa,l1,l2] (G.upd oa (.list (iL acc))) K:=by
 intro cs;induction cs with
 |nil=>exact fun acc l2 J k=>⟨trivial,by have:=k l2;rwa[show acc++nI []=acc from aO _]at this⟩
 |cons c cs Yb=>exact fun acc l2 hl k=>by refine pQ trivial fun R hR=>?_;simp![lp,Fc,qY,qk];refine .own (pj n hw) hf (.lst up_eq ⋯ (.ord (c:=c) rfl ?_));refine⟨_,up_eq,qS.app (by rw[ah];exact ae (aC _ _) hl) ?_⟩;rw[pF,qZ];refine hR _ _ (Yb _ _ (by rw[aa,aQ,bk _ cs.length];exact hl) fun l2=>?_);rw[ax];exact k l2
theorem DY{E:QE}(hd:3<=d)(hD:0<=D/\D<=60)(hw:H wa=none)(k:∀H' oa da,Wr H H' wa oa da D ws0->Q .none H'):pz Th (pB L) d 50 [.ref wa,.int D] (H.upd wa (.inst 622 [])) Q E:=by
 refine call_of (fn:=Fc) (qB hd rfl) rfl rfl ?_;simp![Fc];refine qh (pV hd rfl) (fun J=>?_) fun z=>absurd hD z;lia;intro oa noa;have z1:=pA noa;have N1:=nw (a:=wa) (z:=.inst 622 (put 11 (.int D) [])) (o:=.list [.int 247,.int 2]) (y:=.inst 622 (put 39 (.ref oa) (put 11 (.int D) []))) z1.1 z1.2;have n1:=z1.1.symm;lia;generalize ((H.upd wa (.inst 622 (put 11 (.int D) []))).upd oa (.list [.int 247,.int 2])).upd wa (.inst 622 (put 39 (.ref oa) (put 11 (.int D) [])))=H1 at N1 ⊢;have w1:=N1.self;refine xl (l:=iL [247,2]) (pV hd rfl) ⋯ N1.new ?_;have lu:([247,2]++units).length=14:=by unfold units;rw[aa,aa,aa,pM,pM,pM];rfl
 have ep:B7=[247,2]++units++[8]++nI glue:=rfl;refine aG▸?_;generalize [247,2]++units=pl at lu ep ⊢;lia;refine .Nh ⋯ ?_;refine⟨_,up_eq,qS.app (by rw[ah,lu];decide) ?_⟩;rw[pF,qZ];lia;refine .str ⋯ (by refine jC.symm▸?_;rfl) ?_;have:=IM (L:=L) (d:=d - 1) (E:=E) (l1:=.int D) w1 rfl n1 glue (pl++[8]) .rG (by refine aa▸?_;refine lu▸?_;decide) (K:=kc (rest Th (pz Th (pB L) (d - 1)) (match Fc.body with| .cons _ (.cons _ (.cons _ (.cons _ (.cons _ (.cons _ r)))))=>r|r=>r) (rK Q) E) (rK Q)) fun l2=>?_
 ·exact this
 rw[<-ep];simp![Fc];refine(fun Am da Yc=>?_);have z3:=N1.none _ (pA Yc).2;have dw:=z3.2.1.symm;lia;exact k _ oa da ⟨fun b o e=>pj (px hw e) (pj (px z3.1 e) (pj (px z1.2 e) (N1.keep _ _ (px hw e) e))),⟨hw,z1.2,z3.1⟩,up_eq,pj n1.symm (pj (pA Yc).1.symm up_eq),⟨Am,pj z3.2.1 up_eq⟩⟩
end
def wU(l:List Int):Prop:=∀i∈l,0<=i/\i<256
theorem wU.app(h:wU a)(g:wU b):wU (a++b):=fun i hi=>(aM.mp hi).elim (h i) (g i)
theorem wU.nil:wU []:=fun J h=>nomatch h
theorem wU.cons(h:0<=x/\x<256)(g:wU l):wU (x::l):=fun i hi=>(aA.mp hi).elim (fun e=>e▸h) (g i)
theorem q7:∀(r:Nat) (n:Int),wU (be r n):=by
 intro r;induction r with
 |zero=>exact fun J=>.nil
 |succ r pS=>exact fun n=>.cons ⟨bt _ ⋯,bP _ ⋯⟩ (pS n)
theorem DZ(h:n=1\/n=2):wU (enc (.uf n)):=by exact(show∀l,wU l->wU (243::n::l)from fun l g=>.cons ⋯ (.cons (by rcases h with rfl|rfl<;>decide) g)) [] .nil|>.app (q7 4 0)|>.app (q7 4 655360)|>.app (q7 4 655360)|>.app (.cons ⋯ (.cons ⋯ (.cons ⋯ (.cons (by rcases h with rfl|rfl<;>decide) .nil))))
noncomputable def su:List Int->List Int
 |[]=>[]
 |k::r=>enc (.uf k)++su r
theorem IP:∀{ks:List Int},(∀k∈ks,k=1\/k=2)->wU (su ks):=by
 intro ks;induction ks with
 |nil=>exact fun J=>.nil
 |cons k r ih=>exact fun h=>(DZ (h k (.head _))).app (ih fun x hx=>h x (.tail _ hx))
theorem D0(n:Int):(enc (.uf n)).length=18:=rfl
theorem yc:∀ks:List Int,(su ks).length=18*ks.length:=by
 intro ks;induction ks with
 |nil=>exact rfl
 |cons k r pS=>exact by show(enc (.uf k)++su r).length=_;rw[aa,D0,pS,a8,ip,bk]
def rH(es:Es):List Int:=(qF (es.map ar)).reverse
def rW(x:WS):List Int:=[248]++be 4 x.last++units++be 4 x.sO++be 4 x.wide++be 2 x.deep++be 2 x.uP++su (rH x.es)++[249]++be 4 x.fo.length++[2]
noncomputable def FC(n:Nat):List Int:=aK (4+(-(n:Int)).fmod 4).toNat 223
def WS.file(x:WS):List Int:=x.fo++rW x++FC (x.fo++rW x).length
section
variable{L:List Fn}{G H0 H:MH}{wa oa da r:Addr}{D:Int}{x:WS}{fw:FW}{fa:Int->Addr}
theorem IQ(hd:3<=d)(hw:G wa=some (.inst 622 f))(hf:look 18 f=some (.ref da))(Q5:G da=some (.dict (wL es) ep))(he:tj fa es)(hF:sH G fw fa)(h2:G s2=some (.list vl))(nw:wa≠r)(nd:da≠r)(n2:s2≠r)(nf:∀n,n=1\/n=2->fa n≠r):∀(ks:List Int) (acc:List Int) (l2:V) (H:MH),(∀k∈ks,k∈es.map ar)->(∀b o,b≠r->G b=some o->H b=some o)->H r=some (.list (iL acc))->acc.length+18*ks.length<=pq->
  (∀l2 H,(∀b o,b≠r->G b=some o->H b=some o)->H r=some (.list (iL (acc++su ks)))->K .next [.ref wa,.ref r,l2,l3] H)->
  rY (lp Th (pz Th (pB L) d) (.v 2) (qk (qY Fe.body 8)) E) (fun H'=>H' s2=some (.list vl)) (iL ks) [.ref wa,.ref r,l2,l3] H K:=by
 intro x_;induction x_ with
 |nil=>intro acc l2 H _ kp hr _ k;exact⟨kp _ _ n2 h2,k l2 H kp (by rw[show acc++su []=acc from aO _];exact hr)⟩
 |cons n ks ih=>
  intro acc l2 H hk kp hr hl k;have rL:n=1\/n=2:=by obtain⟨e,xb⟩:=aY.mp (hk n (.head _));exact xb.2▸he.b e xb.1
  refine pQ (ok:=fun H'=>H' s2=some (.list vl)) (kp _ _ n2 h2) fun R hR=>?_;obtain⟨nm,pr,ch,tK,Am,fd⟩:=hF n rL;simp![lp,Fe,qY,qk];refine .own (kp _ _ nw hw) hf ?_;refine .uH (kp _ _ nd Q5) ((zO he.a).1 (hk n (.head _))) ?_;refine Bg (qB hd rfl) rL (kp _ _ (nf n rL) fd.o) fd.nm hr (ae (aZ (by rw[a8,ip];exact bI _ _) _) hl) (nf n rL) fun H1 k1 h1=>?_;refine hR _ _ (ih _ _ H1 (fun k hk'=>hk k (.tail _ hk')) (fun b o hb e=>k1 _ _ hb (kp _ _ hb e)) h1 (by rw[aa,D0,aQ,bk 18];exact hl) fun l2 H2 kp2 h2=>k l2 H2 kp2 (by rw[ax]at h2;exact h2))
theorem L9:∀(vs:List V) (acc:List Int) (l3:V),acc.length+vs.length<=pq->(∀l3,K .next [l0,.ref r,l2,l3] (G.upd r (.list (iL (acc++aK vs.length 223)))))->
  rY (lp Th (pz Th (pB L) d) (.v 3) (qk (qY Fe.body 12)) E) (fun J=>True) vs [l0,.ref r,l2,l3] (G.upd r (.list (iL acc))) K:=by
 intro vs;induction vs with
 |nil=>exact fun acc l3 J k=>⟨trivial,by have:=k l3;rwa[show acc++aK ([]:List V).length 223=acc from aO _]at this⟩
 |cons v vs Yd=>exact fun acc l3 hl k=>by refine pQ trivial fun R hR=>?_;simp![lp,Fe,qY,qk];refine⟨_,up_eq,qS.app (by rw[ah];exact ae (aC _ _) hl) ?_⟩;rw[pF,qZ];refine hR _ _ (Yd _ _ (by rw[aa,aQ,bk [223].length];exact hl) fun l3=>?_);rw[ax];exact k l3
theorem xq:∀l:List Int,tH (iL l)=some l:=by
 intro l;induction l with
 |nil=>exact rfl
 |cons x l Dz=>exact by show(tH (iL l)).map (x::·)=_;refine Dz▸?_;rfl
theorem wy{l t:List Int}(h:l.length+(m+k)<=M)(ht:t.length=m):(l++t).length+k<=M:=by rw[aa,ht,aQ];exact h
theorem Ma{l t:List Int}(h:l.length+(m+k)<=M)(ht:t.length<=m):(l++t).length+k<=M:=by rw[aa,aQ];exact ae (aZ (bB ht k) _) h
theorem zU(n:Int):(sW 0 n 1).length=n.toNat:=by unfold sW;rw[ah,lR,if_pos rfl,Int.sub_zero]
theorem Bl:wU units:=((q7 4 _).app (q7 4 _)).app (q7 4 _)
theorem Pe(n:Nat):wU (FC n):=fun i hi=>by refine(jE hi)▸?_;decide
theorem Pf(hd:4<=d)(hw:Wr H0 H wa oa da D x)(hF:sH H fw fa)(he:tj fa x.es)(hb:wU x.fo)(hl:x.fo.length+100<=pq)(K:∀H',(∀b o,H b=some o->H' b=some o)->Q (.bytes x.file) H'):pz Th (pB L) d 52 [.ref wa] H Q E:=by
 have w0:=hw.w;have o0:=hw.o;obtain⟨ep,d0⟩:=hw.d;refine call_of (fn:=Fe) (qB hd rfl) rfl rfl ?_;simp![Fe];refine .Qa o0 (by rw[ah];exact ae (aC _ _) hl) fun r nr=>?_;have wr:=px nr w0;have or:=px nr o0;have dr:=px nr d0;lia;refine⟨_,up_eq,qS.app (by rw[ah];exact ae (aC _ _) hl) ?_⟩;rw[pF,qZ];have b2:∀v,(be 2 v).length=2:=fun v=>pM 2 v;have b4:∀v,(be 4 v).length=4:=fun v=>pM 4 v;have lu:units.length=12:=by unfold units;rw[aa,aa,pM,pM,pM]
 have pn:∀(H:MH) (v:Int) (m:Nat) (l':List Int) (Q:QV),m<=4->l'.length+4<=pq->Q .none (H.upd r (.list (iL (l'++be m v))))->pz Th (pB L) (d - 1) 25 [.ref r,.int v,.int m] (H.upd r (.list (iL l'))) Q E:=fun H v m l' Q hm hl' k=>by refine qf (pV hd rfl) hm (by rw[ah];exact hl') up_eq ?_;rw[pF,<-aG];exact k
 lia;have h1:=wy (m:=1) (k:=99) (t:=[248]) hl rfl;have h2:=wy (m:=4) (k:=95) h1 (b4 x.last);have h3:=wy (m:=12) (k:=83) h2 lu;have h4:=wy (m:=4) (k:=79) h3 (b4 x.sO);have h5:=wy (m:=4) (k:=75) h4 (b4 x.wide);have h6:=wy (m:=2) (k:=73) h5 (b2 x.deep);have h7:=wy (m:=2) (k:=71) h6 (b2 x.uP);refine pn _ _ 4 _ _ ⋯ (AH h1 rfl) ?_;lia;refine xl (l:=iL _) (pV hd rfl) (by rw[ah];exact AH h2 rfl) up_eq ?_;rw[pF,<-aG];lia;refine pn _ _ 4 _ _ ⋯ (AH h3 rfl) ?_;lia;refine pn _ _ 4 _ _ ⋯ (AH h4 rfl) ?_;lia;refine pn _ _ 2 _ _ ⋯ (AH h5 rfl) ?_;lia;refine pn _ _ 2 _ _ ⋯ (AH h6 rfl) ?_;generalize hl7:x.fo++[248]++be 4 x.last++units++be 4 x.sO++be 4 x.wide++be 2 x.deep++be 2 x.uP=l7 at h7 ⊢;lia;have le2:(wL x.es).length<=2:=by unfold wL;rw[ah];exact he.len
 refine .sorted (pj dr d0) (bM le2 ⋯) fun s1 ns1=>?_;have kl:(qF ((wL x.es).map ar)).length<=2:=by rw[(rt _).length_eq,ah];exact le2
 have z1:=pA ns1;refine .lst up_eq (by rw[ah];exact ae kl ⋯) fun s2 W4=>?_;have z2:=pA W4;have z3:=pA z2.2;rw[show((qF ((wL x.es).map ar)).map V.int).reverse=iL (rH x.es) by refine jF▸?_;unfold rH;rw[show(wL x.es).map ar=x.es.map ar by unfold wL;refine dP.symm▸?_;rfl]];have k3:(rH x.es).length<=2:=by unfold rH;rw[eV,(rt _).length_eq,ah];exact he.len
 have k4:∀k∈rH x.es,k∈x.es.map ar:=fun k hk=>(rt _).mem_iff.mp (gQ.mp hk);refine .lst up_eq (by rw[ah];exact ae k3 ⋯) ?_;have old:∀b o,H b=some o->(((H.upd r (.list (iL l7))).upd s1 (.list ((qF ((wL x.es).map ar)).map V.int))).upd s2 (.list (iL (rH x.es)))) b=some o:=fun b o e=>pj (px z3.2 e) (pj (px z1.2 e) (pj (px nr e) e));have gr:(((H.upd r (.list (iL l7))).upd s1 (.list ((qF ((wL x.es).map ar)).map V.int))).upd s2 (.list (iL (rH x.es)))) r=some (.list (iL l7)):=pj z3.1.symm (pj z1.1.symm up_eq);have gs:(((H.upd r (.list (iL l7))).upd s1 (.list ((qF ((wL x.es).map ar)).map V.int))).upd s2 (.list (iL (rH x.es)))) s2=some (.list (iL (rH x.es))):=up_eq;generalize ((H.upd r (.list (iL l7))).upd s1 (.list ((qF ((wL x.es).map ar)).map V.int))).upd s2 (.list (iL (rH x.es)))=G at old gr gs ⊢;have fl:(su (rH x.es)).length<=36:=by rw[yc];exact k8 18 k3
 have h8:=Ma (t:=su (rH x.es)) (m:=36) (k:=35) h7 fl;refine IQ (es:=x.es) (pV hd rfl) (old _ _ w0) rfl (old _ _ d0) he (hF.more old) gs wr dr z3.1 (fun n hn=>by obtain⟨_,_,_,_,_,fd⟩:=hF n hn;exact px nr fd.o) (rH x.es) l7 _ G k4 (fun b o J e=>e) gr (by rw[<-yc];exact ae (aZ (ae fl (by decide:36<=71)) _) h7) fun l2 H2 kp hr=>?_;have w2:=kp _ _ wr (old _ _ w0);have o2:=kp _ _ or (old _ _ o0);lia;refine⟨_,hr,qS.app (by rw[ah];exact ae (aC _ _) h8) ?_⟩;rw[qZ];have h9:=wy (m:=1) (k:=34) (t:=[249]) h8 rfl;lia;refine .ud (pj or o2) (by rw[ah];exact ae (aC _ _) hl) ?_;rw[ah];refine pn _ _ 4 _ _ ⋯ (AH h9 rfl) ?_;have h10:=wy (m:=4) (k:=30) h9 (b4 x.fo.length);lia;refine⟨_,up_eq,qS.app (by rw[ah];exact ae (aC _ _) h10) ?_⟩;rw[pF,qZ];have h11:=wy (m:=1) (k:=29) (t:=[2]) h10 rfl;lia;have ef:l7++su (rH x.es)++[249]++be 4 x.fo.length++[2]=x.fo++rW x:=by rw[<-hl7];unfold rW;simp only[ax]
 rw[ef]at h11 ⊢;refine .ud up_eq (by rw[ah];exact ae (aC _ _) h11) ?_;rw[ah];have f0:0<=(-((x.fo++rW x).length:Int)).fmod 4/\(-((x.fo++rW x).length:Int)).fmod 4<4:=⟨bt _ ⋯,bP _ ⋯⟩;lia;refine .mod ⋯ ?_;have fb:(4+(-((x.fo++rW x).length:Int)).fmod 4).natAbs<2^60:=Z.wl (Z.o 0x111128030184131000000000000000100000000f3651 [_] [] rfl f0.1) (Z.o 0x11112413811000000000000000100000000f36841311 [_] [] rfl f0.2);have fp:(FC (x.fo++rW x).length).length<=8:=by unfold FC;rw[dJ];exact Z.tle (fq ⋯ f0.1) (dz (b7 f0.2) 4)
 lia;refine .CL fb (.Ak (.inl rfl) ⋯ fb ?_);have h12:=Ma (m:=8) (k:=21) h11 fp;refine L9 _ _ _ (by rw[zU];have:=h12;unfold FC at this;rw[aa,dJ]at this;exact ae (aC _ _) this) fun l3=>?_;rw[zU,show x.fo++rW x++aK (4+(-((x.fo++rW x).length:Int)).fmod 4).toNat 223=x.file from rfl];lia;have pb:wU (rW x):=by unfold rW;have one:∀n:Int,0<=n/\n<256->wU [n]:=fun n h=>.cons h .nil;exact((((((((((one 248 ⋯).app (q7 4 _)).app Bl).app (q7 4 _)).app (q7 4 _)).app (q7 2 _)).app (q7 2 _)).app (IP fun k hk=>by obtain⟨e,h1,h2⟩:=aY.mp (k4 k hk);exact h2▸he.b e h1)).app (one 249 ⋯)).app (q7 4 _)).app (one 2 ⋯)
 refine .Q8 up_eq (xq _) (ae (aC _ _) h12) ((hb.app pb).app (Pe _)) ?_;exact K _ fun b o e=>pj (px nr e) (kp _ _ (px nr e) (old _ _ e))
end
noncomputable def qH(l:List Int)(k:Nat):O:=.inst 838 [(39,.bytes l),(2,.int k)]
def At(l:List Int)(k:Nat)(r:List Int):Prop:=∃p,l=p++r/\p.length=k
theorem At.next(h:At l k (x++r)):At l (k+x.length) r:=by obtain⟨p,vw⟩:=h;exact⟨p++x,by rw[vw.1,ax],by rw[aa,vw.2]⟩
theorem At.le(h:At l k (x++r)):k+x.length<=l.length:=by obtain⟨p,vw⟩:=h;rw[vw.1,aa,aa,vw.2,<-aQ];exact aC _ _
theorem At.get(h:At l k (x::r)):idx l.length (k:Int)=some k/\l[k]? =some x:=by obtain⟨p,vw⟩:=h;exact vw.1▸(yK vw.2)
theorem At.one(h:At l k (x::r)):At l (k+1) r:=h.next (x:=[x])
theorem At.cut(h:At l k (x++r)):rR l (some (k:Int)) (some ((k+x.length:Nat):Int))=x:=by obtain⟨p,vw⟩:=h;rw[Lx,vw.1,<-vw.2,List.drop_left,cV,mZ]
noncomputable def IU:Int->List Int->Int
 |a,[]=>a
 |a,x::r=>IU (256*a+x) r
theorem FD(v B:Int)(h:0<B):(v.fdiv B).fmod 256*B+v.fmod B=v.fmod (B*256):=by
 have e1:=kr v B;have e2:=kr (v.fdiv B) 256;have m0:=bt (v.fdiv B) (by decide:(0:Int)<256);have m1:=bP (v.fdiv B) (by decide:(0:Int)<256);have r0:=bt v h;have r1:=bP v h;generalize (v.fdiv B).fmod 256=m at*;generalize v.fmod B=r at*;generalize (v.fdiv B).fdiv 256=q at*;have e3:v=(m*B+r)+q*(B*256):=by rw[<-e1,<-e2,jU,fm m,fm q,<-kN B 256 q,dW,d9]
 have b1:m*B+r<B*256:=by have:m*B<=255*B:=hK (kJ m1) (b7 h);rw[fm B];exact Z.o 0x1111113aff2480a912a001349811 [_,_,_] [] rfl r1 this
 rw[e3,iW,dx (fq (mL m0 (b7 h)) r0) b1]
theorem Ph:∀(r:Nat) (a v:Int),IU a (be r v)=a*256^r+v.fmod (256^r):=by
 intro r;induction r with
 |zero=>exact fun a v=>by show a=a*1+v.fmod 1;rw[Int.fmod_one,Int.mul_one,cG]
 |succ r pS=>exact fun a v=>by show IU (256*a+(v.fdiv (256^r)).fmod 256) (be r v)=_;rw[pS,jT,dW,FD v _ (Int.pow_pos ⋯),oA,fm 256 a,kN,fm 256]
theorem Ye(h:j+m<=4):(256:Int)^j<=256^4:=(by decide:∀j<5,(256:Int)^j<=256^4) j (fj (ae (aC _ _) h))
section
variable{L:List Fn}{H:MH}{sa:Addr}{l x q:List Int}{k:Nat}
theorem D1(ho:H sa=some (qH l k))(hl:l.length<=pq):∀(x:List Int) (n:Nat) (acc:Int) (j:Nat) (l4:V),At l n (x++q)->wU x->0<=acc->acc<256^j->j+x.length<=4->(∀l4,K .next [.ref sa,l1,l2,.int (IU acc x),l4] H)->
  rY (lp Th (pz Th (pB L) d) (.v 4) (qk (qY Lg.body 3)) E) (fun J=>True) (sW n (n+(x.length:Nat)) 1) [.ref sa,l1,l2,.int acc,l4] H K:=by
 intro x;induction x with
 |nil=>exact fun n acc j l4 J J J J J K=>by rw[show([]:List Int).length=0 from rfl,vQ];exact⟨trivial,K l4⟩
 |cons x r pS=>exact fun n acc j l4 ha hb a0 a1 hj K=>by rw[show(x::r).length=r.length+1 from rfl,xn];refine pQ trivial fun R hR=>?_;simp![lp,Lg,qY,qk];refine .mul ⋯ (Z.wl (Z.o 0x11112803018000000000000000010000000f3651 [_] [] rfl a0) (Z.o 0x111111300000000193909812000000000000000010000000f3681 [_,_] [] rfl a1 (Ye hj))) ?_;lia;refine .bytes ha.get.1 ha.get.2 (bM hl ⋯) ?_;lia;refine hR _ _ (pS (n+1) (256*acc+x) (j+1) _ ha.one (fun i hi=>hb i (.tail _ hi)) (Z.o 0x11001311390308030298001341030 [_,_] [] rfl a0 (hb x (.head _)).1) ?_ (by rw[aQ,bk 1];exact hj) K);exact Z.o 0x1100131130013391a812a00137980013411 [_,_,_] [] rfl a1 (hb x (.head _)).2
theorem Bm(hd:1<=d)(ho:H sa=some (qH l k))(hl:l.length<=pq)(ha:At l k (x++q))(hb:wU x)(h4:x.length<=4)(K:Q (.int (IU 0 x)) (H.upd sa (qH l (k+x.length)))):pz Th (pB L) d 74 [.ref sa,.int (x.length:Int)] H Q E:=by have le:=ha.le;refine call_of (fn:=Lg) hd rfl rfl ?_;simp![Lg];refine .Hu hl ?_;lia;refine tD (bJ.mpr (bq.mpr le)) ?_;lia;refine .VX (vR (m:=0) (ae (ae (aC _ _) le) hl)) (vR (n:=k+x.length) (m:=0) (ae le hl)) (.Ak (.inl rfl) (vR (m:=0) (ae (ae (aC _ _) le) hl)) (vR (n:=k+x.length) (m:=0) (ae le hl)) ?_);refine D1 ho hl x k 0 0 _ ha hb (cz _) ⋯ (by rw[cJ];exact h4) fun l4=>?_;lia;exact K
theorem xr(hd:1<=d)(ho:H sa=some (qH l k))(hl:l.length<=pq)(ha:At l k (x++q))(K:Q (.bytes x) (H.upd sa (qH l (k+x.length)))):pz Th (pB L) d 76 [.ref sa,.int (x.length:Int)] H Q E:=by refine call_of (fn:=Tj) hd rfl rfl ?_;simp![Tj];refine .Hu hl ?_;lia;refine tD (bJ.mpr (bq.mpr ha.le)) ?_;lia;refine .bytes .int .int hl ?_;refine(show rR l (some (k:Int)) (some ((k:Int)+(x.length:Int)))=x from ha.cut).symm▸?_;lia;exact K
theorem sP(hd:1<=d)(ho:H sa=some (qH l k))(hl:l.length<=pq)(h4:r<=4)(ha:At l k (be r v++q))(K:Q (.int (v.fmod (256^r))) (H.upd sa (qH l (k+r)))):pz Th (pB L) d 74 [.ref sa,.int (r:Int)] H Q E:=by have:=Bm (L:=L) (x:=be r v) (Q:=Q) (E:=E) hd ho hl ha (q7 r v) (by refine(pM r v).symm▸?_;exact h4);rw[(pM r v),Ph,lj,c8]at this;exact this K
theorem q8(hd:1<=d)(ho:H sa=some (qH l k))(hl:l.length<=pq)(ha:At l k (v::q))(hb:0<=v/\v<256)(K:Q (.int v) (H.upd sa (qH l (k+1)))):pz Th (pB L) d 74 [.ref sa,.int 1] H Q E:=by have:=Bm (L:=L) (x:=[v]) (Q:=Q) (E:=E) hd ho hl ha (.cons hb .nil) (av rfl);rw[show IU 0 [v]=v from by show 256*0+v=v;rw[lg,c8]]at this;exact this K
noncomputable def sgn(r:Nat)(v:Int):Int:=if 128*256^(r - 1)<=v then v - 2*(128*256^(r - 1))else v
theorem Um(h0:1<=r)(h1: -(128*256^(r - 1))<=v)(h2:v<128*256^(r - 1)):sgn r (v.fmod (256^r))=v:=by
 obtain⟨m,rfl⟩:∃m,r=m+1:=⟨r - 1,(d8 h0).symm⟩;unfold sgn;rw[iV]at*;rw[oA];generalize (256:Int)^m=B at*;by_cases z:0<=v
 ·rw[dx z (by exact Z.o 0x3111213908248189082450290013781 [_,_] [] rfl h1 h2),if_neg (by exact Z.o 0x11112808249119808243 [_,_] [] rfl h2)]
 ·rw[<-iW v 1,gF,dx (by exact Z.o 0x1131213908248189082450290013781030 [_,_] [] rfl h1 h2) (by exact Z.o 0x1111280331900137900137811 [_,_] [] rfl z),if_pos (by exact Z.o 0x1111298082450180013791808240 [_,_] [] rfl h1)];exact Z.o 0x11111108908242149001378122 [_,_] [] rfl
theorem qA(hd:2<=d)(ho:H sa=some (qH l k))(hl:l.length<=pq)(h0:1<=r)(h4:r<=4)(h1: -(128*256^(r - 1))<=v)(h2:v<128*256^(r - 1))(ha:At l k (be r v++q))(K:Q (.int v) (H.upd sa (qH l (k+r)))):pz Th (pB L) d 75 [.ref sa,.int (r:Int)] H Q E:=by
 rw[<-Um h0 h1 h2]at K;have pb:(256:Int)^(r - 1)<=256^4:=Ye (m:=1) (ae (cj (d8 h0)) h4);refine call_of (fn:=Ti) (qB hd rfl) rfl rfl ?_;simp![Ti];refine sP (pV hd rfl) ho hl h4 ha ?_;lia;refine .pow (Z.o 0x11112811351113862030 [] [_] rfl h0) (Z.o 0x111124138510424f531138620 [] [_] rfl h4) ⋯ ?_;rw[(show((r:Int) - 1).toNat=r - 1 from nG r 1)];unfold sgn at K;generalize (256:Int)^(r - 1)=B at*;refine .mul ⋯ (Z.wl (Z.o 0x11110013380824919808245028000000000000000010000000f3651 [_,_] [] rfl h1 h2) (Z.o 0x1111200000000193801000000000000000010000000f3681 [_] [] rfl pb)) ?_;lia;refine vK (fun z=>?_) fun z=>?_
 ·rw[if_pos z]at K;lia;refine .mul ⋯ (Z.wl (Z.o 0x1111213808249198082450280824000000000000000010000000f3651 [_,_] [] rfl h1 h2) (Z.o 0x8211200000000193801000000000000000010000000f36808241 [_] [] rfl pb)) ?_;lia;exact K
 ·rw[if_neg z]at K;exact K
end
noncomputable abbrev vy:=Bool->Bool->Int
noncomputable def Ve(h v:Int)(c:vy)(fn:Int)(sk:Addr)(dp:Int)(ro:Addr):O:=.inst 880 [(24,.int h),(69,.int v),(70,.int (c false false)),(73,.int (c false true)),(74,.int (c true false)),(75,.int (c true true)),(17,.int fn),(63,.ref sk),(10,.int dp),(51,.ref ro)]
noncomputable def Pj(h v:Int)(c:vy):V:=.tup [.int h,.int v,.int (c false false),.int (c false true),.int (c true false),.int (c true true)]
noncomputable def D2:List (Int×Int×Nat)->List vy->List V
 |x::r,c::cs=>D2 r cs++[Pj x.1 x.2.1 c]
 |_,_=>[]
noncomputable def AQ(n:Int):V:=.tup [.int 0,.int 655360,.int 655360,.int 0,.bytes [102,96+n]]
def wz(l:List Int):List (Int×V):=l.map fun n=>(n,AQ n)
structure vz(l:List Int):Prop where
 n:l.Nodup
 b:∀n∈l,n=1\/n=2
theorem vz.len(h:vz l):l.length<=2:=by have:=tj.len (fa:=fun n=>n.toNat) (es:=l.map fun n=>(n,n.toNat)) ⟨fun e he=>by obtain⟨x,_,rfl⟩:=aY.mp he;rfl,by refine dP.symm▸?_;exact(j4 l).symm▸h.n,fun e he=>by obtain⟨x,hx,rfl⟩:=aY.mp he;exact h.b x hx⟩;rwa[ah]at this
theorem vz.more{n:Int}(h:vz l)(hn:n∉l)(rL:n=1\/n=2):vz (l++[n]):=
 ⟨cM.mpr ⟨h.n,dX _ _,fun x hx y hy e=>hn (by rw[aI]at hy;exact hy▸e▸hx)⟩,fun x hx=>(aM.mp hx).elim (h.b x) fun z=>(aI.mp z)▸rL⟩
theorem xt:∀{l:List Int},(n∈l->p8 n (wz l)=some (AQ n))/\(n∉l->p8 n (wz l)=none):=by
 intro l;induction l with
 |nil=>exact⟨fun h=>(nomatch h),fun J=>rfl⟩
 |cons m l Dz=>
  exact by
   show(_->(if m=n then some (AQ m)else p8 n (wz l))=_)/\(_->(if m=n then some (AQ m)else p8 n (wz l))=_);by_cases q:m=n
   ·refine(if_pos q)▸?_;refine q▸?_;exact⟨fun J=>rfl,fun z=>absurd (.head _) z⟩
   ·refine(if_neg q)▸?_;exact⟨fun z=>Dz.1 ((aA.mp z).resolve_left fun y=>q y.symm),fun z=>Dz.2 fun y=>z (.tail _ y)⟩
theorem He:∀{l:List Int},n∉l->dput n (AQ n) (wz l)=wz (l++[n]):=by
 intro l;induction l with
 |nil=>exact fun J=>rfl
 |cons m l Dz=>exact fun h=>by show(if m=n then _ else(m,AQ m)::dput n (AQ n) (wz l))=_;rw[if_neg fun q:m=n=>h (q▸.head _),Dz fun y=>h (.tail _ y)];rfl
structure RA where
 sa:Addr
 pa:Addr
 sk:Addr
 ro:Addr
 ka:Addr
structure RNe(A:RA):Prop where
 n1:A.sa≠A.pa
 n2:A.sa≠A.sk
 n3:A.sa≠A.ro
 n4:A.sa≠A.ka
 n5:A.pa≠A.sk
 n6:A.pa≠A.ro
 n7:A.pa≠A.ka
 n8:A.sk≠A.ro
 n9:A.sk≠A.ka
 n0:A.ro≠A.ka
structure Rd(H0 H:MH)(A:RA)(l:List Int)(k:Nat)(s:RS)(c:vy)(cs:List vy):Prop where
 old:∀b o,H0 b=some o->H b=some o
 new:∀b,b=A.sa\/b=A.pa\/b=A.sk\/b=A.ro\/b=A.ka->H0 b=none
 ne:RNe A
 sa:H A.sa=some (qH l k)
 pa:H A.pa=some (Ve s.h s.v c s.fn A.sk (max s.dp s.rO.length) A.ro)
 sk:H A.sk=some (.list (D2 s.rO cs))
 ro:H A.ro=some (.list s.rows)
 ka:∃ep,H A.ka=some (.dict (wz s.kn) ep)
 ln:cs.length=s.rO.length
 kl:vz s.kn
section
variable{L:List Fn}{H0 H:MH}{A:RA}{l q:List Int}{k:Nat}{s:RS}{c:vy}{cs:List vy}
theorem Rd.str(h:Rd H0 H A l k s c cs)(k':Nat):Rd H0 (H.upd A.sa (qH l k')) A l k' s c cs:=
 ⟨fun b o e=>pj (fun z=>by rw[h.new b (.inl z)]at e;exact Z.nS e) (h.old b o e),h.new,h.ne,up_eq,pj h.ne.n1.symm h.pa,pj h.ne.n2.symm h.sk,pj h.ne.n3.symm h.ro,let ⟨ep,e⟩:=h.ka;⟨ep,pj h.ne.n4.symm e⟩,h.ln,h.kl⟩
theorem Rd.reg(h:Rd H0 H A l k s c cs)(c':vy):Rd H0 (H.upd A.pa (Ve h' v' c' fn' A.sk (max s.dp s.rO.length) A.ro)) A l k {s with h:=h',v:=v',fn:=fn'} c' cs:=
 ⟨fun b o e=>pj (fun z=>by rw[h.new b (.inr (.inl z))]at e;exact Z.nS e) (h.old b o e),h.new,h.ne,pj h.ne.n1 h.sa,up_eq,pj h.ne.n5.symm h.sk,pj h.ne.n6.symm h.ro,let ⟨ep,e⟩:=h.ka;⟨ep,pj h.ne.n7.symm e⟩,h.ln,h.kl⟩
theorem Rd.nn(h:Rd H0 H A l k s c cs)(e:H0 b=some o):b≠A.sa/\b≠A.pa/\b≠A.sk/\b≠A.ro/\b≠A.ka:=by
 have z:∀x,(x=A.sa\/x=A.pa\/x=A.sk\/x=A.ro\/x=A.ka)->b≠x:=fun x hx q=>by have hx:=q▸hx;have e:=(h.new b hx)▸e;exact Z.nS e
 exact⟨z _ (.inl rfl),z _ (.inr (.inl rfl)),z _ (.inr (.inr (.inl rfl))),z _ (.inr (.inr (.inr (.inl rfl)))),z _ (.inr (.inr (.inr (.inr rfl))))⟩
theorem Rd.chg(h:Rd H0 H A l k s c cs)(f:∀b o,b≠A.pa->b≠A.sk->b≠A.ro->H b=some o->H' b=some o)(p:H' A.pa=some (Ve s'.h s'.v c' s'.fn A.sk (max s'.dp s'.rO.length) A.ro))(q:H' A.sk=some (.list (D2 s'.rO FE)))(r:H' A.ro=some (.list s'.rows))(kn:s'.kn=s.kn)(ln:FE.length=s'.rO.length):Rd H0 H' A l k s' c' FE:=
 ⟨fun b o e=>f b o (h.nn e).2.1 (h.nn e).2.2.1 (h.nn e).2.2.2.1 (h.old b o e),h.new,h.ne,f _ _ h.ne.n1 h.ne.n2 h.ne.n3 h.sa,p,q,r,let ⟨ep,e⟩:=h.ka;⟨ep,kn▸f _ _ h.ne.n7.symm h.ne.n9.symm h.ne.n0.symm e⟩,ln,kn▸h.kl⟩
theorem uQ:∀{st:List (Int×Int×Nat)} {cs:List vy},cs.length=st.length->(D2 st cs).length=st.length:=by
 intro st;induction st with
 |nil=>exact @fun J J=>rfl
 |cons x r v8=>
  intro z2;induction z2 with
  |nil=>exact @fun e=>nomatch e
  |cons y cs=>exact @fun e=>by show(D2 r cs++[_]).length=_;rw[aa,v8 (eR e)];rfl
theorem B8(hd:1<=d)(h:Rd H0 H A l k s c cs)(b1:Sm (s.h+x))(b2:Sm (s.v+y))(K:∀H',Rd H0 H' A l k {s with h:=s.h+x,v:=s.v+y} c cs->Q .none H'):pz Th (pB L) d 80 [.ref A.pa,.int x,.int y] H Q E:=by have g:=h.pa;refine call_of (fn:=Tt) hd rfl rfl ?_;simp![Tt];refine tD (bJ.mpr b1) ?_;lia;refine tD (bJ.mpr b2) ?_;lia;exact K _ (h.reg c)
theorem Pk(hd:1<=d)(h:Rd H0 H A l k s c cs)(hl:s.rO.length+1<=pq)(K:∀H',Rd H0 H' A l k {s with rO:=(s.h,s.v,s.rows.length)::s.rO} c (c::cs)->Q .none H'):pz Th (pB L) d 78 [.ref A.pa] H Q E:=by
 have g:=h.pa;have gs:=h.sk;have n5:=h.ne.n5;refine call_of (fn:=To) hd rfl rfl ?_;simp![To];refine⟨_,gs,qS.app (by rw[(uQ h.ln)];exact cq hl) ?_⟩;lia;refine .ud up_eq (by rw[aa,(uQ h.ln)];exact hl) ?_;rw[aa,(uQ h.ln)];lia;rw[Bk];have e:max (max s.dp (s.rO.length:Int)) ((s.rO.length+1:Nat):Int)=max s.dp ((s.rO.length+1:Nat):Int):=by rw[Int.max_assoc,gM (b:=((s.rO.length+1:Nat):Int)) (bq.mpr (bA _))]
 rw[e];exact K _ (h.chg (fun b o b1 b2 J e=>pj b1 (pj b2 e)) up_eq (pj n5.symm up_eq) (pj h.ne.n6.symm (pj h.ne.n8.symm h.ro)) rfl (congrArg (· +1) h.ln))
theorem Un(hd:1<=d)(h:Rd H0 H A l k s c (c'::FE))(e:s.rO=(a,b,n)::r)(hl:s.rO.length<=pq)(K:∀H',Rd H0 H' A l k {s with h:=a,v:=b,rO:=r,dp:=max s.dp (r.length+1)} c' FE->Q .none H'):pz Th (pB L) d 79 [.ref A.pa] H Q E:=by
 have g:=h.pa;have gs:=h.sk;have n5:=h.ne.n5;have lr:FE.length=r.length:=by have:=h.ln;rw[e]at this;exact eR this
 have es:D2 s.rO (c'::FE)=D2 r FE++[Pj a b c']:=by rw[e];rfl
 refine call_of (fn:=Tq) (qB hd rfl) rfl rfl ?_;simp![Tq];refine .ud gs (by rw[(uQ h.ln)];exact hl) ?_;rw[(uQ h.ln)];lia;refine tD (by rw[e];exact fun z=>nomatch z) ?_;lia;refine⟨_,gs,qS.pop (x:=Pj a b c') (by rw[es];exact ij) (by rw[(uQ h.ln)];exact hl) ?_⟩;rw[es,ik];simp![Pj];have ed:max s.dp (s.rO.length:Int)=max (max s.dp (r.length+1)) (r.length:Int):=by rw[e,a8];exact(fU (a:=max s.dp ((r.length+1:Nat):Int)) (b:=(r.length:Int)) (aT (bq.mpr (bA _)) (gS _ _))).symm
 exact ed▸(K _ (h.chg (fun b o b1 b2 J e=>pj b1 (pj b2 e)) up_eq (pj n5.symm up_eq) (pj h.ne.n6.symm (pj h.ne.n8.symm h.ro)) rfl lr))
end
def sE(sz:Int):Enc->Int
 | .pl=>qo sz - 1
 | .st k=>qo sz - 1+(if k then 10 else 5)
 | .ag k=>if k then 9 else 4
def yd(sz:Int):Enc->List Int
 | .pl=>be (qo sz) sz
 | .st _=>be (qo sz) sz
 | .ag _=>[]
noncomputable def encC(sz:Int)(c:Bool->Int):Enc->Bool->Int
 | .st k,j=>if k=j then sz else c j
 |_,j=>c j
theorem FF(d:Bool)(e:Enc)(sz:Int):enc (.mv d e sz)=(encM d+sE sz e)::yd sz e:=by
 induction e using Enc.casesOn with
 |pl=>show(encM d+qo sz - 1)::_=_;rw[lX];rfl
 |st k=>show(encM d+qo sz - 1+_)::_=_;rw[lX,dW];rfl
 |ag k=>rfl
theorem xu(sz:Int)(e:Enc):0<=sE sz e/\sE sz e<14:=by
 have:=tX sz;induction e using Enc.casesOn with
 |pl=>exact⟨Z.o 0x11112811351113862030 [] [_] rfl this.1,Z.o 0x11112413851e131138621 [] [_] rfl this.2⟩
 |st k=>
  induction k using aX
  ·exact⟨Z.o 0x111128113515131138621030 [] [_] rfl this.1,Z.o 0x11112413851e1351311386211 [] [_] rfl this.2⟩
  ·exact⟨Z.o 0x11112811351a131138621030 [] [_] rfl this.1,Z.o 0x11112413851e13a1311386211 [] [_] rfl this.2⟩
 |ag k=>
  induction k using aX
  ·exact(by decide:(0:Int)<=4/\(4:Int)<14)
  ·exact(by decide:(0:Int)<=9/\(9:Int)<14)
theorem IV(h:Sm v): -(128*256^(qo v - 1))<=v/\v<128*256^(qo v - 1):=by unfold Sm at h;unfold qo;(repeat' split)<;>simp<;>(first|exact⟨Z.ZI h rfl,Z.QY h rfl⟩|exact⟨Z.Nd ‹_› rfl,Z.Hl ‹_› rfl⟩)
section
variable{L:List Fn}{H:MH}{sa:Addr}{l q:List Int}{k:Nat}
theorem xv(hd:3<=d)(ho:H sa=some (qH l k))(hl:l.length<=pq)(hw:w=sE sz e)(hz:Sm sz)(Yg:∀j,e=.ag j->c j=sz)(ha:At l k (yd sz e++q))
  (K:Q (.tup [.int sz,.int (encC sz c e false),.int (encC sz c e true)]) (H.upd sa (qH l (k+(yd sz e).length)))):pz Th (pB L) d 85 [.ref sa,.int w,.int (c false),.int (c true)] H Q E:=by
 have rs:=tX sz;have ft:=IV hz;have bl:=pM (qo sz) sz;refine call_of (fn:=Ff) (qB hd rfl) rfl rfl ?_;subst hw;induction e using Enc.casesOn with
 |pl=>
  have w1:sE sz .pl+1=(qo sz:Int):=fc _ _;have w2:sE sz .pl<4:=by show(qo sz:Int) - 1<4;exact Z.o 0x111124138514131138621 [] [_] rfl rs.2
  simp![Ff];refine An w2 ?_;lia;refine w1▸?_;refine qA (pV hd rfl) ho hl rs.1 rs.2 ft.1 ft.2 ha ?_;rw[show(yd sz .pl).length=qo sz from bl]at K;exact K
 |st j=>
  induction j using aX
  ·refine(show sE sz (.st false)=(qo sz:Int) - 1+5 from rfl)▸?_;have w1:(qo sz:Int) - 1+5 - 4=(qo sz:Int):=Z.o 0x111111086413513113862122 [] [_] rfl;simp![Ff];refine tD (Z.o 0x111041351311386214 [] [_] rfl) ?_;lia;refine An (Z.o 0x1111241385191351311386211 [] [_] rfl rs.2) ?_;lia;refine An (Z.o 0x1111281135151311386214131 [] [_] rfl rs.1) ?_;lia;rw[w1];refine qA (pV hd rfl) ho hl rs.1 rs.2 ft.1 ft.2 ha ?_;rw[show(yd sz (.st false)).length=qo sz from bl]at K;exact K
  ·refine(show sE sz (.st true)=(qo sz:Int) - 1+10 from rfl)▸?_;have w1:(qo sz:Int) - 1+10 - 9=(qo sz:Int):=Z.o 0x111111086913a13113862122 [] [_] rfl;simp![Ff];refine tD (Z.o 0x1110413a1311386214 [] [_] rfl) ?_;lia;refine tD (Z.o 0x1110913a1311386214 [] [_] rfl) ?_;lia;refine An (Z.o 0x11112811351a1311386219131 [] [_] rfl rs.1) ?_;lia;rw[w1];refine qA (pV hd rfl) ho hl rs.1 rs.2 ft.1 ft.2 ha ?_;rw[show(yd sz (.st true)).length=qo sz from bl]at K;exact K
 |ag j=>
  have hj:=Yg j rfl;rw[show k+(yd sz (.ag j)).length=k from rfl,x6 ho]at K;induction j using aX
  ·rw[show sE sz (.ag false)=4 from rfl];simp![Ff];have K:=hj▸K;exact K
  ·rw[show sE sz (.ag true)=9 from rfl];simp![Ff];have K:=hj▸K;exact K
end
def Vf(n:Int):List Int:=n::(be 4 0++(be 4 655360++(be 4 655360++[0,2,102,96+n])))
theorem vS(n:Int):enc (.uf n)=243::Vf n:=by show[243,n]++be 4 0++be 4 655360++be 4 655360++[0,2,102,96+n]=_;rw[ax];rfl
structure rX(H:MH)(fw:FW)(fa:Int->Addr)(fd:Addr)(fes:List (Int×V)):Prop where
 d:∃ep,H fd=some (.dict fes ep)
 g:∀n,n=1\/n=2->p8 n fes=some (.ref (fa n))
 f:sH H fw fa
section
variable{L:List Fn}{H H':MH}{sa fd:Addr}{l q:List Int}{k:Nat}{fw:FW}{fa:Int->Addr}{fes:List (Int×V)}
theorem rX.more(h:rX H fw fa fd fes)(k:∀b o,H b=some o->H' b=some o):rX H' fw fa fd fes:=⟨let ⟨ep,e⟩:=h.d;⟨ep,k _ _ e⟩,h.g,h.f.more k⟩
theorem xw(hd:3<=d)(ho:H sa=some (qH l k))(hl:l.length<=pq)(rL:n=1\/n=2)(h0:∀b o,H0 b=some o->H b=some o)(hn:H0 sa=none)(hF:rX H0 fw fa fd fes)(ha:At l k (Vf n++q))
  (K:∀H',(∀b o,b≠sa->H b=some o->H' b=some o)->H' sa=some (qH l (k+17))->Q (.tup [.int n,AQ n]) H'):pz Th (pB L) d 83 [.ref sa,.int 243,.ref fd] H Q E:=by
 obtain⟨nm,pr,ch,es,ep,fn⟩:=hF.f n rL;obtain⟨XZ,Vg⟩:=hF.d;have fdn:=px hn Vg;have fnn:=px hn fn.o;have gfd:=h0 _ _ Vg;have gfn:=h0 _ _ fn.o;have ha:At l k (n::(be 4 0++(be 4 655360++(be 4 655360++(0::2::([102,96+n]++q)))))):=by unfold Vf at ha;simpa only[bT,ax,cU]using ha
 have a1:=ha.one;have a2:=a1.next;have a3:=a2.next;have a4:=a3.next;have a5:=a4.one;have a6:=a5.one;refine call_of (fn:=Tw) (qB hd rfl) rfl rfl ?_;simp![Tw];refine q8 (pV hd rfl) ho hl ha (by rcases rL with rfl|rfl<;>decide) ?_;lia;refine sP (r:=4) (pV hd rfl) up_eq hl ⋯ a1 ?_;rw[pF,show(0:Int).fmod (256^4)=0 from rfl];lia;refine sP (r:=4) (pV hd rfl) up_eq hl ⋯ a2 ?_;rw[pF,show(655360:Int).fmod (256^4)=655360 from rfl];lia;refine sP (r:=4) (pV hd rfl) up_eq hl ⋯ a3 ?_;rw[pF,show(655360:Int).fmod (256^4)=655360 from rfl];lia;refine q8 (pV hd rfl) up_eq hl a4 ⋯ ?_;rw[pF];lia;refine q8 (pV hd rfl) up_eq hl a5 ⋯ ?_;rw[pF];lia;refine xr (x:=[102,96+n]) (pV hd rfl) up_eq hl a6 ?_;rw[pF];lia;refine⟨_,_,pj fdn gfd,.Jw ?_⟩;rw[show(p8 n fes).getD .none=.ref (fa n) by rw[hF.g n rL];rfl];lia;have DL:nm.length=2:=by refine fn.nm▸?_;rfl
 have Vb:chars nm=[.str ⟨#[102]⟩,.str ⟨#[(96+n).toNat]⟩]:=by refine fn.nm▸?_;rfl
 have nm4:nm.cps.all (· <128)=true:=by refine fn.nm▸?_;refine jC.symm▸?_;rcases rL with rfl|rfl<;>rfl
 have small:((96+n).toNat:Int)=96+n:=Z.tn (rL.elim (fun e=>e▸by decide) fun e=>e▸by decide);refine .bytes .int .none (av rfl) (.Qc (av rfl) fun r1 L7=>?_);have z1:=pA L7;refine .own (pj (px z1.2 gfn) (pj fnn gfn)) rfl (.str (by refine DL▸?_;decide) nm4 ⟨by refine Vb▸?_;exact av rfl,?_⟩);refine Vb▸?_;have turn:∀(c:Nat) (K:Loc->Option V->MH->Prop) (r:V) (H:MH),K [.rG,.str ⟨#[c]⟩] (some (.int c)) H->qx Th (pz Th (pB L) (d - 1)) (.v 1) (.c (.bool true)) (.blt .ord (.cons (.v 1) .nil)) (.str ⟨#[c]⟩) [.rG,r] H K:=fun c K r H k=>by simp![qx];refine .ord (c:=c) rfl ?_;exact k
 show sF (qx Th (pz Th (pB L) (d - 1)) (.v 1) (.c (.bool true)) (.blt .ord (.cons (.v 1) .nil))) _ _ _ _ _ _;refine⟨trivial,turn _ _ _ _ ⟨trivial,turn _ _ _ _ ⟨trivial,fun r2 Uo=>?_⟩⟩⟩;rw[small];have z2:=pA Uo;refine .MN (.ref (l:=[.int 102,.int (96+n)]) (m:=[.int 102,.int (96+n)]) (pj z2.1.symm up_eq) up_eq (.cons .int (.cons .int .nil))) (Lu ?_);lia;have z3:=pA z2.2;exact K _ (fun b o hb e=>pj (px z3.2 e) (pj (px z1.2 e) (pj hb e))) (pj z3.1.symm (pj z1.1.symm up_eq))
end
section
variable{L:List Fn}{H0 H:MH}{A:RA}{l q:List Int}{k:Nat}{s:RS}{c:vy}{cs:List vy}{fw:FW}{fa:Int->Addr}{fd:Addr}{fes:List (Int×V)}
theorem Rd.ao2(h:Rd H0 H A l k s c cs)(f:∀b o,b≠A.sa->H b=some o->H' b=some o)(e:H' A.sa=some (qH l k')):Rd H0 H' A l k' s c cs:=
 ⟨fun b o z=>f b o (h.nn z).1 (h.old b o z),h.new,h.ne,e,f _ _ h.ne.n1.symm h.pa,f _ _ h.ne.n2.symm h.sk,f _ _ h.ne.n3.symm h.ro,let ⟨ep,z⟩:=h.ka;⟨ep,f _ _ h.ne.n4.symm z⟩,h.ln,h.kl⟩
theorem Rd.row(h:Rd H0 H A l k s c cs)(r:V):Rd H0 (H.upd A.ro (.list (s.rows++[r]))) A l k {s with rows:=s.rows++[r]} c cs:=
 h.chg (fun b o J J b3 e=>pj b3 e) (pj h.ne.n6 h.pa) (pj h.ne.n8 h.sk) up_eq rfl h.ln
theorem D3(hd:4<=d)(h:Rd H0 H A l k s c cs)(hl:l.length<=pq)(rL:n=1\/n=2)(hn:n∉s.kn)(hF:rX H0 fw fa fd fes)(ha:At l k (Vf n++q))
  (K:∀H',Rd H0 H' A l (k+17) {s with kn:=s.kn++[n]} c cs->Q .none H'):pz Th (pB L) d 89 [.ref A.sa,.int 243,.ref A.ka,.ref fd] H Q E:=by refine call_of (fn:=TC) (qB hd rfl) rfl rfl ?_;simp![TC];refine xw (pV hd rfl) h.sa hl rL h.old (h.new _ (.inl rfl)) hF ha fun H1 f1 e1=>?_;have h1:=h.ao2 f1 e1;obtain⟨ep,g⟩:=h1.ka;lia;refine .Ep g (tD (fun z=>z (xt.2 hn)) ?_);lia;refine .uH g (bM (by unfold wz;rw[ah];exact h.kl.len) ⋯) fun Am=>?_;refine(He hn)▸?_;exact K _ ⟨fun b o e=>pj ((fun b o (e:H0 b=some o)=>h.nn e) b o e).2.2.2.2 (h1.old b o e),h.new,h.ne,pj h.ne.n4 h1.sa,pj h.ne.n7 h1.pa,pj h.ne.n9 h1.sk,pj h.ne.n0 h1.ro,⟨Am,up_eq⟩,h.ln,h.kl.more hn rL⟩
theorem zV(hd:1<=d)(h:Rd H0 H A l k s c cs)(hn:n∈s.kn)(K:∀H',Rd H0 H' A l k {s with fn:=n} c cs->Q .none H'):pz Th (pB L) d 88 [.ref A.pa,.int n,.ref A.ka] H Q E:=by have g:=h.pa;obtain⟨ep,gk⟩:=h.ka;refine call_of (fn:=TB) (qB hd rfl) rfl rfl ?_;simp![TB];refine .wq gk (tD (fun z=>by rw[xt.1 hn]at z;exact nomatch z) ?_);lia;exact K _ (h.reg (h':=s.h) (v':=s.v) (fn':=n) c)
theorem zW(hd:3<=d)(h:Rd H0 H A l k s c cs)(hF:rX H0 fw fa fd fes)(rL:s.fn=1\/s.fn=2)(hx:0<=x/\x<=255)(hw:fw s.fn x=some w)(b:Sm (s.h+w))(b2:Sm s.v)(hr:s.rows.length<=pq)
  (K:∀H',Rd H0 H' A l k {s with h:=s.h+w,rows:=s.rows++[DM s.h s.v s.fn x]} c cs->Q .none H'):pz Th (pB L) d 86 [.ref A.pa,.int x,.ref fd,.bool true] H Q E:=by
 have g:=h.pa;have gr:=h.ro;have nr:=h.ne.n6;obtain⟨nm,pr,ch,es,ep,fn⟩:=hF.f _ rL;obtain⟨XZ,Vg⟩:=hF.d;have gfd:=h.old _ _ Vg;have gfn:=h.old _ _ fn.o;have nf:=(h.nn fn.o).2.2.2.1;refine call_of (fn:=Tz) (qB hd rfl) rfl rfl ?_;simp![Tz];refine⟨_,_,gfd,.Jw ?_⟩;rw[show(p8 s.fn fes).getD .none=.ref (fa s.fn) by rw[hF.g _ rL];rfl];lia;refine tD (bJ.mpr hx.2) ?_;lia;refine L0 (pV hd rfl) (fn.more h.old) (fun J J=>?_) fun e=>by rw[hw]at e;exact nomatch e
 lia;refine⟨_,gr,qS.app hr ?_⟩;lia;refine zN (pV hd rfl) (fn.more (h.row (DM s.h s.v s.fn x)).old) hw ?_;refine B8 (pV hd rfl) (h.row (DM s.h s.v s.fn x)) b (by rw[cG];exact b2) fun H2 h2=>?_;rw[cG]at h2;exact K H2 h2
theorem B9(hd:3<=d)(h:Rd H0 H A l k s c cs)(hl:l.length<=pq)(ba:0<a/\Sm a)(bw:0<w/\Sm w)(b:Sm (s.h+w))(b2:Sm s.v)(hr:s.rows.length<=pq)(ha:At l k (be 4 a++be 4 w++q))
  (K:∀H',Rd H0 H' A l (k+8) {s with h:=s.h+w,rows:=s.rows++[DN s.h s.v a w]} c cs->Q .none H'):pz Th (pB L) d 87 [.ref A.sa,.ref A.pa,.bool true] H Q E:=by
 have nr:=h.ne.n6;have FG:∀v,Sm v->-(128*256^(4 - 1))<=v/\v<128*256^(4 - 1):=fun v h=>by unfold Sm at h;simp;exact⟨Z.ZI h rfl,Z.QY h rfl⟩
 have g0:=h.sa;rw[ax]at ha;refine call_of (fn:=TA) (qB hd rfl) rfl rfl ?_;simp![TA];refine qA (r:=4) (pV hd rfl) h.sa hl ⋯ ⋯ (FG a ba.2).1 (FG a ba.2).2 ha ?_;lia;refine qA (r:=4) (pV hd rfl) up_eq hl ⋯ ⋯ (FG w bw.2).1 (FG w bw.2).2 ha.next ?_;rw[pF];have g1:=(h.str (k+4+4)).pa;have gr1:=(h.str (k+4+4)).ro;lia;refine An ba.1 ?_;lia;refine An bw.1 ?_;lia;refine⟨_,gr1,qS.app hr ?_⟩;lia;refine B8 (pV hd rfl) ((h.str (k+4+4)).row (DN s.h s.v a w)) b (by rw[cG];exact b2) fun H3 h3=>?_;rw[cG]at h3;exact K H3 h3
end
structure Up(s:RS):Prop where
 h:Sm s.h
 v:Sm s.v
 k:∀e∈s.rO,Sm e.1/\Sm e.2.1
theorem Up.step(g:Up s)(h:qw fw o s s'):Up s':=by
 induction h with
 |vb b c=>exact⟨c,g.v,g.k⟩
 |down b c=>exact⟨g.h,c,g.k⟩
 |push=>exact⟨g.h,g.v,fun e he=>(aA.mp he).elim (fun z=>z▸⟨g.h,g.v⟩) (g.k e)⟩
 |pop e=>have m:∀x∈_,_:=e▸g.k;exact⟨(m _ (.head _)).1,(m _ (.head _)).2,fun x hx=>m x (.tail _ hx)⟩
 |Iz m b=>exact⟨g.h,g.v,g.k⟩
 |uf m b=>exact⟨g.h,g.v,g.k⟩
 |chr b f x=>exact⟨x,g.v,g.k⟩
 |uk b c x=>exact⟨x,g.v,g.k⟩
 |uC b c=>exact⟨g.h,g.v,g.k⟩
theorem Uq{b n m:Int}(h:m<=b)(e:decide (n<=m)=true):¬b<n:=bJ.mpr (aT (of_decide_eq_true e) h)
theorem MX{b n m:Int}(h:m<=b)(e:decide (n<m)=true):¬b=n:=fun z=>absurd (z▸h) (d4.mpr (of_decide_eq_true e))
def Vh(d:Bool)(e:Enc)(sz:Int)(c:vy):vy:=fun d' k'=>if d=d' then encC sz (c d') e k' else c d' k'
theorem Mb(h:(um d' k' (.mv d e sz) (c d' k') st).isSome=true):um d' k' (.mv d e sz) (c d' k') st=some (Vh d e sz c d' k',st):=by
 unfold Vh;rw[zK]at h ⊢;by_cases z:d=d'
 ·rw[if_pos z]at h ⊢;rw[if_pos z];induction e with
  |pl=>rfl
  |st j=>show(if j=k' then _ else _)=some (if j=k' then _ else _,st);split<;>rfl
  |ag j=>
   show(if j=k' then _ else _)=some (c d' k',st);have h:(if j=k' then(if c d' k'=sz then some (c d' k',st)else none)else some (c d' k',st)).isSome=true:=h;split
   ·rename_i y;rw[if_pos y]at h;split
    ·rfl
    ·rename_i y2;rw[if_neg y2]at h;exact nomatch h
   ·rfl
 ·rw[if_neg z,if_neg z]
theorem QG{c:vy}(h:(um d j (.mv d (.ag j) sz) (c d j) st).isSome=true):c d j=sz:=by
 rw[zK,if_pos rfl]at h;have h:(if j=j then(if c d j=sz then some (c d j,st)else none)else some (c d j,st)).isSome=true:=h;have h:=(if_pos rfl)▸h;split at h
 ·assumption
 ·exact nomatch h
section
variable{L:List Fn}{H0 H:MH}{A:RA}{l q:List Int}{k:Nat}{s:RS}{c:vy}{cs:List vy}{fw:FW}{fa:Int->Addr}{fd:Addr}{fes:List (Int×V)}
theorem D4(hd:5<=d)(h:Rd H0 H A l k s c cs)(hl:l.length<=pq)(sm:Up s)(hz:Sm sz)(hz':Sm (s.h+sz))(Yg:∀j,e=.ag j->c false j=sz)(ha:At l k (yd sz e++q))
  (K:∀H',Rd H0 H' A l (k+(yd sz e).length) {s with h:=s.h+sz} (Vh false e sz c) cs->Q .none H'):pz Th (pB L) d 90 [.ref A.sa,.ref A.pa,.int (encM false+sE sz e),.ref A.ka,.ref fd] H Q E:=by
 have w:=xu sz e;have e1:encM false+sE sz e - 143=sE sz e:=by show 143+sE sz e - 143=_;exact Z.o 0x11111108f8238f823122 [_] [] rfl
 have b1:143<=encM false+sE sz e:=by show(143:Int)<=143+sE sz e;exact Z.o 0x11112803018f8231f8230 [_] [] rfl w.1
 have b2:encM false+sE sz e<157:=by show(143:Int)+sE sz e<157;exact Z.o 0x11112e13811d9238f82311 [_] [] rfl w.2
 generalize encM false+sE sz e=b at e1 b1 b2 ⊢;have g:=h.pa;have n1:=h.ne.n1.symm;refine call_of (fn:=uB) (qB hd rfl) rfl rfl ?_;simp![uB];refine tD (Uq b1 rfl) ?_;lia;refine tD (Uq b1 rfl) ?_;lia;refine tD (MX b1 rfl) ?_;lia;refine tD (Uq b1 rfl) ?_;lia;refine tD (MX b1 rfl) ?_;lia;refine tD (MX b1 rfl) ?_;lia;refine tD (MX b1 rfl) ?_;lia;refine tD (MX b1 rfl) ?_;lia;refine An b1 ?_;lia;refine An b2 ?_;lia;refine e1▸?_;refine xv (c:=c false) (pV hd rfl) h.sa hl rfl hz Yg ha ?_;have h1:=h.str (k+(yd sz e).length);lia;have h2:=h1.reg (h':=s.h) (v':=s.v) (fn':=s.fn) (Vh false e sz c);refine B8 (pV hd rfl) h2 hz' (by rw[cG];exact sm.v) fun H3 h3=>?_;have h3:=(show s.v+0=s.v from cG _)▸h3;exact K H3 h3
theorem IW(hd:5<=d)(h:Rd H0 H A l k s c cs)(hl:l.length<=pq)(sm:Up s)(hz:Sm sz)(hz':Sm (s.v+sz))(Yg:∀j,e=.ag j->c true j=sz)(ha:At l k (yd sz e++q))
  (K:∀H',Rd H0 H' A l (k+(yd sz e).length) {s with v:=s.v+sz} (Vh true e sz c) cs->Q .none H'):pz Th (pB L) d 90 [.ref A.sa,.ref A.pa,.int (encM true+sE sz e),.ref A.ka,.ref fd] H Q E:=by
 have w:=xu sz e;have e1:encM true+sE sz e - 157=sE sz e:=by show 157+sE sz e - 157=_;exact Z.o 0x11111108d9238d923122 [_] [] rfl
 have b1:157<=encM true+sE sz e:=by show(157:Int)<=157+sE sz e;exact Z.o 0x11112803018d9231d9230 [_] [] rfl w.1
 have b2:encM true+sE sz e<171:=by show(157:Int)+sE sz e<171;exact Z.o 0x11112e13811ba238d92311 [_] [] rfl w.2
 generalize encM true+sE sz e=b at e1 b1 b2 ⊢;have b0:143<=b:=aT ⋯ b1;have g:=h.pa;have n1:=h.ne.n1.symm;refine call_of (fn:=uB) (qB hd rfl) rfl rfl ?_;simp![uB];refine tD (Uq b1 rfl) ?_;lia;refine tD (Uq b1 rfl) ?_;lia;refine tD (MX b1 rfl) ?_;lia;refine tD (Uq b1 rfl) ?_;lia;refine tD (MX b1 rfl) ?_;lia;refine tD (MX b1 rfl) ?_;lia;refine tD (MX b1 rfl) ?_;lia;refine tD (MX b1 rfl) ?_;lia;refine An b0 ?_;lia;refine tD (Uq b1 rfl) ?_;lia;refine An b1 ?_;lia;refine An b2 ?_;lia;refine e1▸?_;refine xv (c:=c true) (pV hd rfl) h.sa hl rfl hz Yg ha ?_;have h1:=h.str (k+(yd sz e).length);lia;have h2:=h1.reg (h':=s.h) (v':=s.v) (fn':=s.fn) (Vh true e sz c);refine B8 (pV hd rfl) h2 (by rw[cG];exact sm.h) hz' fun H3 h3=>?_;lia;have h3:=(show s.h+0=s.h from cG _)▸h3;exact K H3 h3
set_option tactic.hygienic true in
theorem Pl(hd:5<=d)(st:qw fw o s s')(e:enc o=b::t)(h:Rd H0 H A l k s c cs)(hl:l.length<=pq)(hF:rX H0 fw fa fd fes)(CC:∀n x w,fw n x=some w->n=1\/n=2)(sm:Up s)(hr:s.rows.length<=pq)(hk:s.rO.length+1<=pq)(ha:At l k (t++q))(rc:∀d' k',(um d' k' o (c d' k') (cs.map fun c=>c d' k')).isSome=true)
  (K:∀H' c' FE,Rd H0 H' A l (k+t.length) s' c' FE->(∀d' k',um d' k' o (c d' k') (cs.map fun c=>c d' k')=some (c' d' k',FE.map fun c=>c d' k'))->Q .none H'):pz Th (pB L) d 90 [.ref A.sa,.ref A.pa,.int b,.ref A.ka,.ref fd] H Q E:=by
 cases st with
 |vb b1 b2=>
  rename_i en sz;rw[FF]at e;injection e with e1 e2
  subst e1 e2;exact D4 hd h hl sm b1 b2 (fun j z=>QG (z▸(rc false j))) ha fun H' h'=>K H' _ _ h' fun d' k'=>Mb (rc d' k')
 |down b1 b2=>
  rename_i en sz;rw[FF]at e;injection e with e1 e2
  subst e1 e2;exact IW hd h hl sm b1 b2 (fun j z=>QG (z▸(rc true j))) ha fun H' h'=>K H' _ _ h' fun d' k'=>Mb (rc d' k')
 |push=>
  injection e with e1 e2
  subst e1 e2;have g:=h.pa;refine call_of (fn:=uB) (qB hd rfl) rfl rfl ?_;simp![uB];refine Pk (pV hd rfl) h hk fun H1 h1=>?_;lia;exact K H1 _ _ h1 fun _ _=>rfl
 |pop e0=>
  injection e with e1 e2
  subst e1 e2;have g:=h.pa;have ln:=h.ln;rw[e0]at ln;obtain⟨c',FE,rfl⟩:∃x y,cs=x::y:=by induction cs with|nil=>cases ln|cons x y=>exact⟨x,y,rfl⟩
  refine call_of (fn:=uB) (qB hd rfl) rfl rfl ?_;simp![uB];refine Un (pV hd rfl) h e0 (cq hk) fun H1 h1=>?_;lia;exact K H1 _ _ h1 fun _ _=>rfl
 |Iz m rL=>
  rename_i n;injection e with e1 e2
  subst e1 e2;have g:=h.pa;have e0:171+n - 171=n:=Z.o 0x11111108ba238ba23122 [_] [] rfl;refine call_of (fn:=uB) (qB hd rfl) rfl rfl ?_;have fin:pz Th (pB L) (d - 1) 88 [.ref A.pa,.int n,.ref A.ka] H (fun _ H1=>Q .none H1) E:=zV (pV hd rfl) h m fun H1 h1=>K H1 c cs h1 fun _ _=>rfl;rcases rL with rfl|rfl
  ·simp![uB];exact fin
  ·simp![uB];exact fin
 |uf m rL=>
  rw[vS]at e;injection e with e1 e2
  subst e1 e2;refine call_of (fn:=uB) (qB hd rfl) rfl rfl ?_;simp![uB];refine call_of (fn:=Lh) (dM (qB hd rfl)) rfl rfl ?_;simp![Lh];refine D3 (pV hd rfl) h hl rL m hF ha fun H1 h1=>?_;lia;exact K H1 c cs h1 fun _ _=>rfl
 |chr bx f g=>
  rename_i x w;have rL:=CC _ _ _ f;have e:(if 128<=x then[128,x]else[x])=b::t:=e;have fin:∀k' H',Rd H0 H' A l k' s c cs->k'=k+t.length->pz Th (pB L) (d - 1) 86 [.ref A.pa,.int x,.ref fd,.bool true] H' (fun _ H1=>Q .none H1) E:=fun k' H' h' ek=>zW (pV hd rfl) h' hF rL bx f g sm.v hr fun H1 h1=>K H1 c cs (ek▸h1) fun _ _=>rfl;refine call_of (fn:=uB) (qB hd rfl) rfl rfl ?_;by_cases z:128<=x
  ·rw[if_pos z]at e;injection e with e1 e2
   subst e1 e2;have g0:=h.sa;simp![uB];refine q8 (pV hd rfl) h.sa hl ha ⟨bx.1,dQ bx.2⟩ ?_;lia;exact fin _ _ (h.str (k+1)) rfl
  ·rw[if_neg z]at e;injection e with e1 e2
   subst e1 e2;simp![uB];refine An (d4.mp z) ?_;lia;exact fin _ _ h rfl
 |uk ba bw g=>
  rename_i a w;injection e with e1 e2
  subst e1 e2;have g0:=h.sa;refine call_of (fn:=uB) (qB hd rfl) rfl rfl ?_;simp![uB];refine B9 (pV hd rfl) h hl ba bw g sm.v hr ha fun H1 h1=>?_;lia;exact K H1 c cs (by rw[aa,pM,pM];exact h1) fun _ _=>rfl
 |uC bl bb=>
  rename_i x;injection e with e1 e2
  subst e1 e2;have g0:=h.sa;have gp:=h.pa;have gr:=h.ro;have n1:=h.ne.n1.symm;have n3:=h.ne.n3.symm;refine call_of (fn:=uB) (qB hd rfl) rfl rfl ?_;simp![uB];refine q8 (pV hd rfl) h.sa hl ha ⟨bU _,bR.mpr bl⟩ ?_;lia;refine xr (pV hd rfl) up_eq hl (ha.one (x:=(x.length:Int))) ?_;rw[pF];have h1:=(h.str (k+1+x.length)).row (BX s.h s.v x);refine⟨_,pj n3 gr,qS.app hr ?_⟩;lia;exact K _ c cs (by rw[show k+((x.length:Int)::x).length=k+1+x.length by rw[a8,aQ,bk 1]];exact h1) fun _ _=>rfl
end
theorem Ca(d:Bool):143<=encM d/\encM d<=157:=by cases d<;>exact⋯
set_option tactic.hygienic true in
theorem D5(h:qw fw o s s'):∃b t,enc o=b::t/\(0<=b/\b<256)/\b≠140/\wU t:=by
 have mv:∀d e sz,∃b t,enc (.mv d e sz)=b::t/\(0<=b/\b<256)/\b≠140/\wU t:=fun d e sz=>by
  refine⟨_,_,FF d e sz,⟨Z.o 0x11111138f823090302981030 [_,_] [] rfl (xu sz e).1 (Ca d).1,Z.o 0x1111113d92380e13912001339811 [_,_] [] rfl (xu sz e).2 (Ca d).2⟩,fun zz=>Z.o 0x11111105c82389129f82308030300f [_,_] [] rfl (xu sz e).1 (Ca d).1 zz,?_⟩;induction e with
  |pl=>exact q7 _ _
  |st k=>exact q7 _ _
  |ag k=>exact .nil
 cases h with
 |vb b c=>exact mv _ _ _
 |down b c=>exact mv _ _ _
 |push=>exact⟨_,_,rfl,by decide,by decide,.nil⟩
 |pop e=>exact⟨_,_,rfl,by decide,by decide,.nil⟩
 |Iz m b=>exact⟨_,_,rfl,by rcases b with rfl|rfl<;>decide,by rcases b with rfl|rfl<;>decide,.nil⟩
 |uf m b=>refine⟨_,_,vS _,by decide,by decide,fun i hi=>DZ b i ?_⟩;rw[vS];exact .tail _ hi
 |chr b f x=>
  rename_i y w;by_cases z:128<=y
  ·exact⟨128,[y],if_pos z,by decide,by decide,.cons ⟨b.1,dQ b.2⟩ .nil⟩
  ·exact⟨y,[],if_neg z,⟨b.1,dQ b.2⟩,fun q=>z (by refine q▸?_;decide),.nil⟩
 |uk b c x=>exact⟨_,_,rfl,by decide,by decide,(q7 _ _).app (q7 _ _)⟩
 |uC b c=>exact⟨_,_,rfl,by decide,by decide,.cons ⟨bU _,bR.mpr b⟩ fun i hi=>⟨(c i hi).1,dQ (c i hi).2⟩⟩
theorem Cb(h:rB fw l s s'):wU (bytes l):=by
 induction h with
 |nil=>exact .nil
 |cons h _ ih=>obtain⟨b,t,xQ⟩:=D5 h;rw[tY,xQ.1];exact .app (.cons xQ.2.1 xQ.2.2.2) ih
theorem Mc(h:qw fw o s s'):s'.rows.length<=s.rows.length+1/\s'.rO.length<=s.rO.length+1:=by
 induction h using qw.casesOn with
 |vb _ _=>exact⟨bA _,bA _⟩
 |down _ _=>exact⟨bA _,bA _⟩
 |push=>exact⟨bA _,aF _⟩
 |pop e=>exact⟨bA _,by refine e▸?_;exact gA (bA _)⟩
 |Iz _ _=>exact⟨bA _,bA _⟩
 |uf _ _=>exact⟨bA _,bA _⟩
 |chr _ _ _=>exact⟨cj aa,bA _⟩
 |uk _ _ _=>exact⟨cj aa,bA _⟩
 |uC _ _=>exact⟨cj aa,bA _⟩
section
variable{L:List Fn}{H0:MH}{A:RA}{l q:List Int}{fw:FW}{fa:Int->Addr}{fd:Addr}{fes:List (Int×V)}
theorem IX(hd:5<=d)(hl:l.length<=pq)(hF:rX H0 fw fa fd fes)(CC:∀n x w,fw n x=some w->n=1\/n=2):∀(ops:List Op) (s:RS) (c:vy) (cs:List vy) (H:MH) (k:Nat) (b:Int) (t:List Int),rB fw ops s s'->(∀d' k',(runC d' k' ops (c d' k') (cs.map fun c=>c d' k')).isSome=true)->Rd H0 H A l k s c cs->Up s->s.rows.length+ops.length<=pq->s.rO.length+1+ops.length<=pq->bytes ops++140::q=b::t->At l k t->
  (∀H' k' c' FE,Rd H0 H' A l k' s' c' FE->At l k' q->K .next [.ref A.sa,l1,.ref A.ka,.ref fd,l4,.ref A.pa,.int 140] H')->
  yx (sX Th (pz Th (pB L) d) (.cmp .ne (.v 6) (.c (.int 140))) E) (vB Th (pz Th (pB L) d) (qk (qY Fg.body 4)) E) (ops.length+1) [.ref A.sa,l1,.ref A.ka,.ref fd,l4,.ref A.pa,.int b] H K:=by
 intro ops;induction ops with
 |nil=>
  exact fun s c cs H k b t run J h J J J e ha K=>by
   cases run;injection e with e1 e2
   subst e1 e2;refine qV fun R hR=>?_;simp![sX];exact K H k c cs h ha
 |cons o ops Ur=>
  exact fun s c cs H k b t run rc h sm hr hk e ha K=>by
   cases run with
   |cons st run=>
   obtain⟨b0,t0,e0,b1,b2,b3⟩:=D5 st;have ln:=Mc st;rw[tY,e0,ax]at e;injection e with e1 e2
   subst e1 e2;refine qV fun R hR=>?_;simp![sX];refine An b2 ?_;simp![vB,Fg,qY,qk];refine Pl (d:=d) hd st e0 h hl hF CC sm (ae (aC _ _) hr) (ae (aC _ _) hk) ha (fun d' k'=>?_) fun H1 c1 cs1 h1 rc1=>?_
   ·have:=rc d' k';rw[A8]at this;revert this;cases um d' k' o (c d' k') (cs.map fun c=>c d' k')with
    |none=>exact id
    |some p=>exact fun J=>rfl
   ·have g1:=h1.sa;have QH:=ha.next;obtain⟨b',t',eb⟩:∃b' t',bytes ops++140::q=b'::t':=by cases bytes ops with|nil=>exact⟨_,_,rfl⟩|cons x y=>exact⟨_,_,rfl⟩
    have QH:=eb▸QH;have GP:0<=b'/\b'<256:=by
     have:=Cb run;cases hb:bytes ops with
     |nil=>have eb:=hb▸eb;injection eb with z;refine z▸?_;decide
     |cons x y=>rw[hb]at eb this;injection eb with z;refine z.symm▸?_;exact this x (.head _)
    lia;refine q8 (qB hd rfl) h1.sa hl QH GP ?_;refine hR _ _ (Ur _ c1 cs1 _ _ b' t' run (fun d' k'=>?_) (h1.str _) (sm.step st) ?_ ?_ eb QH.one K)
    ·have:=rc d' k';rw[A8]at this;rw[rc1]at this;exact this
    ·exact ae (bB ln.1 _) (by rw[aQ,bk 1];exact hr)
    ·exact ae (bB (bB ln.2 1) _) (by rw[aQ _ 1 ops.length,bk 1 ops.length];exact hk)
end
noncomputable def ye(cs:List Int):Nat->Nat->List Int
 |0,_=>[]
 |k+1,n=>cs.getD n 0::ye cs k (n+1)
theorem Md(cs:List Int):∀k n,(ye cs k n).length=k:=by
 intro k;induction k with
 |zero=>exact fun J=>rfl
 |succ k EA=>exact fun n=>congrArg (· +1) (EA (n+1))
theorem sm0:Sm 0:=by unfold Sm;decide
theorem FG(h:Sm v): -(128*256^(4 - 1))<=v/\v<128*256^(4 - 1):=by unfold Sm at h;simp;exact⟨Z.ZI h rfl,Z.QY h rfl⟩
section
variable{L:List Fn}{H0:MH}{l q:List Int}{fw:FW}{fa:Int->Addr}{fd:Addr}{fes:List (Int×V)}
theorem D6{G:MH}(hd:2<=d)(hl:l.length<=pq)(hs:∀n,Sm (cs.getD n 0)):∀(m n pos:Nat) (acc:List V) (u1:V) (Q:List V->MH->Prop),At l pos (vf cs m n++q)->Q (acc++iL (ye cs m n)) (G.upd sa (qH l (pos+4*m)))->
  sF (qx Th (pz Th (pB L) d) (.v 1) (.c (.bool true)) (.pD (.v 2) 58 (.cons (.c (.int 4)) .nil))) (fun J=>True) (sW n (n+(m:Nat)) 1) acc [u0,u1,.ref sa] (G.upd sa (qH l pos)) Q:=by
 intro m;induction m with
 |zero=>exact fun n pos acc u1 Q J k=>by rw[vQ];rw[show acc++iL (ye cs 0 n)=acc from aO _]at k;exact⟨trivial,k⟩
 |succ m Us=>exact fun n pos acc u1 Q ha k=>by rw[xn];refine⟨trivial,?_⟩;simp![qx];refine qA (r:=4) (qB hd rfl) up_eq hl ⋯ ⋯ (FG (hs n)).1 (FG (hs n)).2 (show At l pos (be 4 (cs.getD n 0)++(vf cs m (n+1)++q)) by rw[<-ax];exact ha) ?_;rw[pF];lia;refine Us (n+1) (pos+4) _ _ Q ((show At l pos (be 4 (cs.getD n 0)++(vf cs m (n+1)++q)) by rw[<-ax];exact ha).next) ?_;rw[show uU acc (some (V.int (cs.getD n 0)))++iL (ye cs m (n+1))=acc++iL (ye cs (m+1) n)from ax ..];rw[show pos+4+4*m=pos+4*(m+1) by rw[ip,aQ,bk 4]];exact k
theorem FH{H:MH}(hd:1<=d)(ha:H a=none)(k:∀H' sk ro,(∀b o,H b=some o->H' b=some o)->H sk=none->H ro=none->sk≠a->ro≠a->sk≠ro->H' a=some (Ve 0 0 (fun J J=>0) (-1) sk 0 ro)->H' sk=some (.list [])->H' ro=some (.list [])->Q .none H'):pz Th (pB L) d 77 [.ref a] (H.upd a (.inst 880 [])) Q E:=by refine call_of (fn:=Tn) (qB hd rfl) rfl rfl ?_;simp![Tn];intro sk Yh;have z1:=pA Yh;have n1:=z1.1.symm;lia;intro ro Yi;have z2:=pA Yi;have n2:=z2.1.symm;lia;exact k _ sk ro (fun b o e=>pj (px ha e) (pj (px (pA (pA z2.2).2).2 e) (pj (px ha e) (pj (px z1.2 e) (pj (px ha e) e))))) z1.2 (pA (pA z2.2).2).2 z1.1 z2.1 (pA z2.2).1.symm up_eq (pj z1.1 (pj (pA z2.2).1.symm (pj z1.1 up_eq))) (pj z2.1 up_eq)
theorem Cc{k:Nat}{last:Int}(hd:6<=d)(hl:l.length<=pq)(h0:∀b o,H0 b=some o->H b=some o)(hn:H0 sa=none/\H0 ka=none)(hsa:H sa=some (qH l k))(CD:∃ep,H ka=some (.dict (wz kn) ep))(hkn:vz kn)(hF:rX H0 fw fa fd fes)(CC:∀n x w,fw n x=some w->n=1\/n=2)(hs:∀n,Sm (cs.getD n 0))(QI:Sm last)(run:rB fw ops (start kn) s')(rc:∀d' k',(runC d' k' ops 0 []).isSome=true)(HR:s'.rO=[])(BL:ops.length+1<=pq)(hrl:s'.rows.length<=16384)
  (ha:At l k (vf cs 10 0++(be 4 last++(bytes ops++140::q))))
  (K:∀H' A k' c' FE,A.sa=sa->A.ka=ka->Rd H0 H' A l k' s' c' FE->At l k' q->Q (.tup [.tup (iL (ye cs 10 0)),.ref A.pa]) H'):
  pz Th (pB L) d 91 [.ref sa,.int last,.ref ka,.ref fd] H Q E:=by
 refine call_of (fn:=Fg) (qB hd rfl) rfl rfl ?_;simp![Fg];refine .CL ⋯ (.Ak (.inl rfl) ⋯ ⋯ ⟨by decide,?_⟩);have a1:=ha.next;have a2:=a1.next;have:=D6 (L:=L) (u0:=.rG) (cs:=cs) (G:=H) (d:=d - 1) (sa:=sa) (pV hd rfl) hl hs 10 0 k [] .rG (fun vs H2=>rj (.list vs) H2 fun x H1=>qt H1 (fun v H1=>wSs Th (pz Th (pB L) (d - 1)) (match Fg.body with| .cons _ r=>r|r=>r) [.ref sa,.int last,.ref ka,.ref fd,v,.rG,.rG] H1 (rK Q) E) .tuple [x]) ha ?_
 ·rw[x6 hsa]at this;exact this
 refine fun x hx=>.Ni up_eq (by rw[cU,ah,Md];decide) ?_;rw[cU];have zx:=pA hx;have f1:∀b o,b≠sa->H b=some o->((H.upd sa (qH l (k+4*10))).upd x (.list (iL (ye cs 10 0)))) b=some o:=fun b o hb e=>pj (px zx.2 e) (pj hb e);have s1:((H.upd sa (qH l (k+4*10))).upd x (.list (iL (ye cs 10 0)))) sa=some (qH l (k+4*10)):=pj zx.1.symm up_eq;generalize (H.upd sa (qH l (k+4*10))).upd x (.list (iL (ye cs 10 0)))=H1 at f1 s1 ⊢;simp![Fg];refine qA (r:=4) (pV hd rfl) s1 hl ⋯ ⋯ (FG QI).1 (FG QI).2 a1 ?_;obtain⟨ep,CD⟩:=CD;have ks:ka≠sa:=rV CD hsa nofun;have k2:(H1.upd sa (qH l (k+4*10+4))) ka=some (.dict (wz kn) ep):=pj ks (f1 _ _ ks CD);have o2:∀b o,H0 b=some o->(H1.upd sa (qH l (k+4*10+4))) b=some o:=fun b o e=>by
  have bs:b≠sa:=fun z=>by rw[z,hn.1]at e;exact Z.nS e
  exact pj bs (f1 _ _ bs (h0 _ _ e))
 have s2:(H1.upd sa (qH l (k+4*10+4))) sa=some (qH l (k+4*10+4)):=up_eq;generalize H1.upd sa (qH l (k+4*10+4))=H2 at k2 o2 s2 ⊢;lia;refine tD (fun z=>z rfl) ?_;lia;intro pa npa;refine FH (pV hd rfl) npa fun H3 sk ro o3 Yh Yi p1 p2 p3 g1 g2 g3=>?_;have Me:∀{b},H2 b=none->H0 b=none:=fun{b} e=>by
  cases z:H0 b with
  |none=>rfl
  |some o=>rw[o2 b o z]at e;exact nomatch e
 have h3:Rd H0 H3 ⟨sa,pa,sk,ro,ka⟩ l (k+4*10+4) (start kn) (fun J J=>0) []:=
  ⟨fun b o e=>o3 _ _ (o2 _ _ e),fun b hb=>by
   rcases hb with e|e|e|e|e
   ·exact e▸hn.1
   ·exact e▸Me npa
   ·exact e▸Me Yh
   ·exact e▸Me Yi
   ·exact e▸hn.2,⟨px npa s2,px Yh s2,px Yi s2,ks.symm,p1.symm,p2.symm,(px npa k2).symm,p3,(px Yh k2).symm,(px Yi k2).symm⟩,o3 _ _ s2,g1,g2,g3,⟨ep,o3 _ _ k2⟩,rfl,hkn⟩
 obtain⟨b',t',eb⟩:∃b' t',bytes ops++140::q=b'::t':=by cases bytes ops with|nil=>exact⟨_,_,rfl⟩|cons x y=>exact⟨_,_,rfl⟩
 rw[eb]at a2;have GP:0<=b'/\b'<256:=by
  have:=Cb run;cases hb:bytes ops with
  |nil=>have eb:=hb▸eb;injection eb with z;refine z.symm▸?_;decide
  |cons x y=>rw[hb]at eb this;injection eb with z;refine z.symm▸?_;exact this x (.head _)
 have q3:H3 sa=some (qH l (k+4*10+4)):=h3.sa;lia;refine q8 (pV hd rfl) q3 hl a2 GP ?_;lia;refine⟨ops.length+1,IX (A:=⟨sa,pa,sk,ro,ka⟩) (pV hd rfl) hl hF CC ops (start kn) _ [] _ _ b' t' run rc (h3.str (k+4*10+4+1)) ⟨sm0,sm0,fun e he=>nomatch he⟩ ?_ ?_ eb a2.one fun H4 k4 c4 cs4 h4 a4=>?_⟩
 ·show 0+ops.length<=pq;rw[cJ];exact cq BL
 ·show 0+1+ops.length<=pq;rw[cJ,bk];exact BL
 have q4:H4 pa=some (Ve s'.h s'.v c4 s'.fn sk (max s'.dp s'.rO.length) ro):=h4.pa;have st4:H4 sk=some (.list (D2 s'.rO cs4)):=h4.sk;have ln:=h4.ln;rw[HR]at ln st4;lia;refine .ud st4 (bW _) ?_;lia;refine tD (fun z=>nomatch z) ?_;exact K H4 ⟨sa,pa,sk,ro,ka⟩ k4 c4 cs4 rfl rfl h4 a4
end
noncomputable def uV:V:=.tup [.int 25400000,.int 473628672,.int 1000]
section
variable{L:List Fn}{H0 H:MH}{l q:List Int}{k:Nat}{fw:FW}{fa:Int->Addr}{fd sa ka:Addr}{fes:List (Int×V)}
theorem wB(hd:3<=d)(ho:H sa=some (qH l k))(hl:l.length<=pq)(ha:At l k (units++q))(K:Q uV (H.upd sa (qH l (k+12)))):pz Th (pB L) d 82 [.ref sa] H Q E:=by refine call_of (fn:=Tv) (qB hd rfl) rfl rfl ?_;simp![Tv];refine qA (r:=4) (pV hd rfl) ho hl ⋯ ⋯ ⋯ ⋯ (show At l k (be 4 25400000++(be 4 473628672++(be 4 1000++q))) by unfold units at ha;rwa[ax,ax]at ha) ?_;lia;refine qA (r:=4) (pV hd rfl) up_eq hl ⋯ ⋯ ⋯ ⋯ (show At l k (be 4 25400000++(be 4 473628672++(be 4 1000++q))) by unfold units at ha;rwa[ax,ax]at ha).next ?_;rw[pF];lia;refine qA (r:=4) (pV hd rfl) up_eq hl ⋯ ⋯ ⋯ ⋯ (show At l k (be 4 25400000++(be 4 473628672++(be 4 1000++q))) by unfold units at ha;rwa[ax,ax]at ha).next.next ?_;rw[pF];lia;refine .min rfl ?_;lia;exact K
theorem D7(hd:1<=d)(k:Q .none (H.upd sa (qH l 0))):pz Th (pB L) d 73 [.ref sa,.bytes l] (H.upd sa (.inst 838 [])) Q E:=by refine call_of (fn:=Tf) (qB hd rfl) rfl rfl ?_;simp![Tf];exact k
def uR(cm:List Int)(pl ka:Addr)(sO wide deep:Int):O:=.inst 901 [(68,uV),(9,.bytes cm),(42,.ref pl),(18,.ref ka),(67,.int sO),(71,.int wide),(10,.int deep)]
theorem D8(hd:1<=d)(Q5:H da=none)(k:∀H' pl ka,(∀b o,H b=some o->H' b=some o)->H pl=none->H ka=none->pl≠da->ka≠da->H' da=some (uR cm pl ka 0 0 0)->H' pl=some (.list [])->(∃ep,H' ka=some (.dict [] ep))->Q .none H'):pz Th (pB L) d 81 [.ref da,uV,.bytes cm] (H.upd da (.inst 901 [])) Q E:=by refine call_of (fn:=Tu) (qB hd rfl) rfl rfl ?_;unfold uV;simp![Tu];intro pl Pm;have z1:=pA Pm;have n1:=z1.1.symm;lia;refine(fun ep ka nka=>?_);have z2:=pA nka;have n2:=z2.1.symm;lia;exact k _ pl ka (fun b o e=>pj (px Q5 e) (pj (px (pA (pA z2.2).2).2 e) (pj (px Q5 e) (pj (px z1.2 e) (pj (px Q5 e) e))))) z1.2 (pA (pA z2.2).2).2 z1.1 z2.1 up_eq (pj z1.1 (pj (pA z2.2).1.symm (pj z1.1 up_eq))) ⟨ep,pj z2.1 up_eq⟩
theorem zX(ks:List Int)(q:List Int):∃b t,su ks++249::q=b::t/\(0<=b/\b<256):=by
 induction ks using aH with
 |nil=>exact⟨249,q,rfl,by decide⟩
 |cons n ks=>exact⟨243,Vf n++(su ks++249::q),by show enc (.uf n)++su ks++249::q=_;rw[vS,ax];rfl,by decide⟩
end
section
variable{L:List Fn}{G:MH}{l q:List Int}{fw:FW}{fa:Int->Addr}{fd sa ka ta:Addr}{fes:List (Int×V)}
theorem IY(hd:4<=d)(hl:l.length<=pq)(hF:rX G fw fa fd fes)(gs:G sa=none)(gt:G ta=none)(ts:ta≠sa)(gk:G ka=some (.dict (wz kn) epk)):∀(ks done:List Int) (H:MH) (k:Nat) (b:Int) (t:List Int) (l5 l6:V),(∀b o,G b=some o->H b=some o)->H sa=some (qH l k)->(∃ep,H ta=some (.dict (wz done) ep))->su ks++249::q=b::t->At l k t->vz (done++ks)->(∀n∈ks,n∈kn)->
  (∀H' k' l5 l6,(∀b o,G b=some o->H' b=some o)->H' sa=some (qH l k')->At l k' q->(∃ep,H' ta=some (.dict (wz (done++ks)) ep))->K .next [.ref sa,.ref ka,.ref fd,.ref ta,.int 249,l5,l6] H')->
  yx (sX Th (pz Th (pB L) d) (.cmp .ne (.v 4) (.c (.int 249))) E) (vB Th (pz Th (pB L) d) (qk (qY Li.body 2)) E) (ks.length+1) [.ref sa,.ref ka,.ref fd,.ref ta,.int b,l5,l6] H K:=by
 intro x_;induction x_ with
 |nil=>
  intro done H k b t l5 l6 h0 hs ht e ha _ _ K;injection e with e1 e2
  subst e1 e2;refine qV fun R hR=>?_;simp![sX];exact K H k _ _ h0 hs ha (by rw[aO];exact ht)
 |cons n ks ih=>
  intro done H k b t l5 l6 h0 hs q9_ e ha ok sub K;obtain⟨ep,ht⟩:=q9_;rw[show su (n::ks)=enc (.uf n)++su ks from rfl,vS,ax]at e;injection e with e1 e2
  subst e1 e2;have rL:=ok.b n (fB _ (.head _));have nd:n∉done:=fun z=>(cM.mp ok.n).2.2 n z n (.head _) rfl;have ok1:vz done:=⟨(cM.mp ok.n).1,fun x hx=>ok.b x (eM _ hx)⟩;refine qV fun R hR=>?_;simp![sX];simp![vB,Li,qY,qk];refine call_of (fn:=Lh) (qB hd rfl) rfl rfl ?_;simp![Lh];refine xw (qB hd rfl) hs hl rL h0 gs hF ha fun H1 f1 s1=>?_;have g1:∀b o,G b=some o->H1 b=some o:=fun b o e=>f1 _ _ (fun z=>by rw[z,gs]at e;exact Z.nS e) (h0 _ _ e);have t1:=f1 _ _ ts ht;have k1:=g1 _ _ gk;lia;refine .Ep t1 (tD (fun z=>z (xt.2 nd)) ?_);lia;refine⟨_,_,k1,.Jw ?_⟩;rw[show(p8 n (wz kn)).getD .none=AQ n by rw[xt.1 (sub n (.head _))];rfl];unfold AQ;refine .neT (.tup (.cons .int (.cons .int (.cons .int (.cons .int (.cons .bytes .nil)))))) (Lu ?_);lia;refine .uH t1 (bM (by unfold wz;rw[ah];exact ok1.len) ⋯) fun Am=>?_;rw[show dput n (V.tup [V.int 0,V.int 655360,V.int 655360,V.int 0,V.bytes [102,96+n]]) (wz done)=wz (done++[n])from He nd];obtain⟨b',t',eb,GP⟩:=zX ks q;have QH:=ha.next;rw[eb,show(Vf n).length=17 from rfl]at QH;have Ke:=ts.symm;lia;refine q8 (qB hd rfl) (pj Ke s1) hl QH GP ?_;refine hR _ _ (ih (done++[n]) _ _ b' t' _ _ (fun b o e=>pj (fun z=>by rw[z,gs]at e;exact Z.nS e) (pj (fun z=>by rw[z,gt]at e;exact Z.nS e) (g1 _ _ e))) up_eq ⟨Am,pj ts up_eq⟩ eb QH.one (by rw[ax];exact ok) (fun x hx=>sub x (.tail _ hx)) fun H' k' l5 l6 a1 a2 a3 a4=>K H' k' l5 l6 a1 a2 a3 (by rw[ax]at a4;exact a4))
theorem AR(hd:5<=d)(hl:l.length<=pq)(h0:∀b o,G b=some o->H b=some o)(gs:G sa=none)(hF:rX G fw fa fd fes)(gk:∃ep,G ka=some (.dict (wz kn) ep))(hs:H sa=some (qH l k))(ok:vz ks)(sub:∀n∈ks,n∈kn)(len:ks.length=kn.length)(ha:At l k (su ks++249::q))
  (K:∀H' k',(∀b o,G b=some o->H' b=some o)->H' sa=some (qH l k')->At l k' q->Q .none H'):pz Th (pB L) d 92 [.ref sa,.ref ka,.ref fd] H Q E:=by
 obtain⟨epk,gk⟩:=gk;refine call_of (fn:=Li) (qB hd rfl) rfl rfl ?_;simp![Li];refine(fun ep ta nta=>?_);have gt:G ta=none:=by
  cases z:G ta with
  |none=>rfl
  |some o=>rw[h0 _ _ z]at nta;exact nomatch nta
 have ts:=(px nta hs).symm;have Ke:=ts.symm;obtain⟨b',t',EI⟩:=zX ks q;rw[EI.1]at ha;lia;refine q8 (pV hd rfl) (pj Ke hs) hl ha EI.2 ?_;lia;refine⟨ks.length+1,IY (pV hd rfl) hl hF gs gt ts gk ks [] _ _ b' t' _ _ (fun b o e=>pj (fun z=>by rw[z,gs]at e;exact Z.nS e) (pj (fun z=>by rw[z,gt]at e;exact Z.nS e) (h0 _ _ e))) up_eq ⟨ep,pj ts up_eq⟩ EI.1 ha.one ok sub fun H' k' l5 l6 a1 a2 a3 a4=>?_⟩;obtain⟨L6,a4⟩:=a4;have a5:=a1 _ _ gk;have kl:∀x:List Int,(wz x).length=x.length:=fun x=>ah _;have l1:([]++ks:List Int).length<=16384:=ae ok.len ⋯;lia;refine .Q7 a4 (by rw[kl];exact l1) ?_;rw[kl];lia;refine .Q7 a5 (by rw[kl,<-len];exact l1) ?_;rw[kl,<-len];lia;refine tD (fun z=>z rfl) ?_;exact K H' k' a1 a2 a3
end
section
variable{L:List Fn}{G H0:MH}{l q:List Int}{fw:FW}{fa:Int->Addr}{fd sa ka ta da pl:Addr}{fes:List (Int×V)}
theorem Mf:∀(m:Nat) (u1:V) (Q:List V->MH->Prop),Q [] H->sF (qx Th (pz Th (pB L) d) (.v 1) (.cmp .ne (.v 1) (.c (.int 223))) (.v 1)) (fun J=>True) (iL (aK m 223)) [] [u0,u1] H Q:=by
 intro m;induction m with
 |zero=>exact fun u1 Q k=>⟨trivial,k⟩
 |succ m Us=>exact fun u1 Q k=>by refine⟨trivial,?_⟩;simp![qx];exact Us _ _ k
noncomputable def minus(H:MH)(x:Addr):MH:=fun b=>if b=x then none else H b
theorem tZ:minus H x x=none:=if_pos rfl
theorem qi(n:b≠x)(e:H b=o):minus H x b=o:=(if_neg n).trans e
theorem p9(e:minus H x b=some o):b≠x/\H b=some o:=by
 unfold minus at e;split at e
 ·exact Z.nS e
 ·exact⟨by assumption,e⟩
theorem Bn{v:Int}(h:0<=v/\v<65536):v.fmod (256^2)=v:=dx h.1 h.2
theorem Cd(hd:6<=d)(hl:l.length<=pq)(h0:∀b o,H0 b=some o->H b=some o)(hn:H0 sa=none/\H0 da=none)(hF:rX H0 fw fa fd fes)(hs:H sa=some (qH l (n+1)))(Ik:H da=some (uR cm pl ka tv wv dp))(IZ:H pl=some (.list pv))(CD:∃ep,H ka=some (.dict (wz kn) ep))
  (s1:Sm last)(s2:Sm sO)(s3:Sm wide)(s4:0<=deep/\deep<65536)(s5:0<=uP/\uP<65536)(s6:dp<=deep)(s7:uP=pv.length)(s8:n<4294967296)(ok:vz ks)(sub:∀x∈ks,x∈kn)(len:ks.length=kn.length)(hm:4<=m)
  (ha:At l (n+1) (be 4 last++(units++(be 4 sO++(be 4 wide++(be 2 deep++(be 2 uP++(su ks++249::(be 4 n++2::aK m 223)))))))))
  (K:∀H',(∀b o,H0 b=some o->H' b=some o)->H' da=some (uR cm pl ka sO wide dp)->H' pl=some (.list pv)->(∃ep,H' ka=some (.dict (wz kn) ep))->Q .none H'):pz Th (pB L) d 93 [.ref sa,.ref da,.int last,.ref fd] H Q E:=by
 obtain⟨epk,CD⟩:=CD;have ds:da≠sa:=rV Ik hs nofun;have ps:pl≠sa:=rV IZ hs nofun;have GJ:ka≠sa:=rV CD hs nofun;have pd:pl≠da:=rV IZ Ik nofun;have kd:ka≠da:=rV CD Ik nofun;have sd:=ds.symm;have a1:=ha.next;have a2:=a1.next;have a3:=a2.next;have a4:=a3.next;have a5:=a4.next;have a6:=a5.next;refine call_of (fn:=TF) (qB hd rfl) rfl rfl ?_;simp![TF];refine qA (r:=4) (pV hd rfl) hs hl ⋯ ⋯ (FG s1).1 (FG s1).2 ha ?_;lia;refine tD (fun z=>z rfl) ?_;lia;refine wB (pV hd rfl) up_eq hl a1 ?_;rw[pF];lia;unfold uV;refine .neT (.tup (.cons .int (.cons .int (.cons .int .nil)))) (Lu ?_);lia;refine qA (r:=4) (pV hd rfl) up_eq hl ⋯ ⋯ (FG s2).1 (FG s2).2 a2 ?_;rw[pF];lia;refine qA (r:=4) (pV hd rfl) (pj sd up_eq) hl ⋯ ⋯ (FG s3).1 (FG s3).2 a3 ?_;lia;have f2:∀b o x y z w,b≠sa->b≠da->H b=some o->((((H.upd sa x).upd da y).upd sa z).upd da w) b=some o:=fun b o J J J J h1 h2 e=>pj h2 (pj h1 (pj h2 (pj h1 e)));refine sP (r:=2) (pV hd rfl) (pj sd up_eq) hl ⋯ a4 ?_;rw[Bn s4];lia;refine tD (bJ.mpr s6) ?_;lia;refine sP (r:=2) (pV hd rfl) up_eq hl ⋯ a5 ?_;rw[Bn s5,pF];have f3:∀b o x y z w v,b≠sa->b≠da->H b=some o->(((((H.upd sa x).upd da y).upd sa z).upd da w).upd sa v) b=some o:=fun b o J J J J J h1 h2 e=>pj h1 (f2 _ _ _ _ _ _ h1 h2 e);lia;refine .ud (f3 _ _ _ _ _ _ _ ps pd IZ) (by have:=s5.2;rw[s7]at this;exact bC (ly (bR.mp this) ⋯)) ?_;lia;refine .mod ⋯ ?_;refine s7▸?_;refine(dx s5.1 s5.2).symm▸?_;lia;refine tD (fun z=>z rfl) ?_;lia;have G1:∀b o,b≠sa->b≠da->H b=some o->minus (H.upd da (uR cm pl ka sO wide dp)) sa b=some o:=fun b o h1 h2 e=>qi h1 (pj h2 e);have G2:minus (H.upd da (uR cm pl ka sO wide dp)) sa da=some (uR cm pl ka sO wide dp):=qi ds up_eq;have G4:∀b o x y z v,minus (H.upd da (uR cm pl ka sO wide dp)) sa b=some o->(((((H.upd sa x).upd da y).upd sa z).upd da (uR cm pl ka sO wide dp)).upd sa v) b=some o:=fun b o x y z v e=>by
  obtain⟨h1,e⟩:=p9 e;by_cases h2:b=da
  ·subst h2;rw[up_eq]at e;exact e▸pj ds up_eq
  ·rw[sL h2]at e;exact f3 _ _ _ _ _ _ _ h1 h2 e
 have G3:minus (H.upd da (uR cm pl ka sO wide dp)) sa sa=none:=tZ;generalize minus (H.upd da (uR cm pl ka sO wide dp)) sa=G at G1 G2 G3 G4;have hF':rX G fw fa fd fes:=hF.more fun b o e=>G1 _ _ (fun z=>by rw[z,hn.1]at e;exact Z.nS e) (fun z=>by rw[z,hn.2]at e;exact Z.nS e) (h0 _ _ e);refine AR (G:=G) (pV hd rfl) hl (fun b o e=>G4 b o _ _ _ _ e) G3 hF' ⟨epk,G1 _ _ GJ kd CD⟩ up_eq ok sub len a6 fun H4 k4 g4 s4' a7=>?_;have ha8:=a7.next;rw[pM]at ha8;lia;have a9:At l (k4+4+1) (aK m 223++[]):=by rw[aO];exact ha8.one
 have ll:(l.length:Int) - ((k4+4+1:Nat):Int)=((aK m (223:Int)).length:Int):=by obtain⟨p,e,hp⟩:=a9;rw[e,aa,hp,aO,Int.natCast_add,d9,dc]
 refine sP (r:=4) (pV hd rfl) s4' hl ⋯ a7 ?_;rw[show((n:Int)).fmod (256^4)=n from dx (bU _) (bR.mpr s8)];lia;refine tD (fun z=>z (dc (n:Int) 1).symm) ?_;lia;refine q8 (pV hd rfl) up_eq hl ha8 ⋯ ?_;rw[pF];lia;refine .Hu hl ?_;lia;rw[ll];refine xr (pV hd rfl) up_eq hl a9 ?_;rw[pF];have lm:(aK m (223:Int)).length<=pq:=ae (ae (bI _ _) a9.le) hl;lia;refine .Hu lm ?_;lia;refine tD (bJ.mpr (by rw[dJ];exact bq.mpr hm)) ?_;lia;refine .bytes lm ⟨by rw[ah];exact lm,Mf m _ _ fun r1 L7=>fun r2 Uo=>?_⟩;have z1:=pA L7;have z2:=pA Uo;have z3:=pA z2.2;refine .MN (.ref (l:=[]) (m:=[]) (pj z2.1.symm up_eq) up_eq .nil) (Lu ?_);lia;have fin:∀b o,b≠sa->H4 b=some o->(((H4.upd sa (qH l (k4+4+1+(aK m (223:Int)).length))).upd r1 (.list [])).upd r2 (.list [])) b=some o:=fun b o h e=>pj (px z3.2 e) (pj (px z1.2 e) (pj h e));have nn:∀b o,H0 b=some o->b≠sa/\b≠da:=fun b o e=>⟨(fun z=>by rw[z,hn.1]at e;exact Z.nS e),(fun z=>by rw[z,hn.2]at e;exact Z.nS e)⟩;exact K _ (fun b o e=>fin _ _ (nn b o e).1 (g4 _ _ (G1 _ _ (nn b o e).1 (nn b o e).2 (h0 _ _ e)))) (fin _ _ ds (g4 _ _ G2)) (fin _ _ ps (g4 _ _ (G1 _ _ ps pd IZ))) ⟨epk,fin _ _ GJ (g4 _ _ (G1 _ _ GJ kd CD))⟩
end
structure Pd where
 cs:List Int
 ops:List Op
 s:RS
def FI(p:Pd)(last:Int):List Int:=139::(vf p.cs 10 0++(be 4 last++(bytes p.ops++[140])))
noncomputable def vT:List Pd->Int->Nat->List Int
 |[],_,_=>[]
 |p::r,last,pos=>FI p last++vT r pos (pos+(FI p last).length)
noncomputable def vn:List Pd->Int->Nat->Int
 |[],last,_=>last
 |p::r,last,pos=>vn r pos (pos+(FI p last).length)
def D9(p:Pd):V:=.tup [.tup (iL (ye p.cs 10 0)),.tup p.s.rows]
noncomputable def zY:Int->List Pd->Int
 |dp,[]=>dp
 |dp,p::r=>zY (max dp (max p.s.dp p.s.rO.length)) r
structure Yj(fw:FW)(kn:List Int)(p:Pd):Prop where
 run:rB fw p.ops (start kn) p.s
 rc:∀d' k',(runC d' k' p.ops 0 []).isSome=true
 st:p.s.rO=[]
 hs:∀n,Sm (p.cs.getD n 0)
 rl:p.s.rows.length<=16384
inductive yt(fw:FW):List Int->List Pd->List Int->Prop where
 |nil {kn}:yt fw kn [] kn
 |cons {kn p r Ut} (h:Yj fw kn p) (g:yt fw p.s.kn r Ut):yt fw kn (p::r) Ut
theorem At.len(h:At l k r):l.length=k+r.length:=by obtain⟨p,vw⟩:=h;rw[vw.1,aa,vw.2]
theorem ao3(o1:o<=b)(MQ:l=p+1+(c+(e+(b+q))))(hl:l<=L)(h:1<=q):o+1<=L:=Z.o 0x11110111159b5fa1e1d1113c11b7a8539113815 [] [_,_,_,_,_,_,_,_] rfl o1 MQ hl
theorem Pn:∀ops:List Op,ops.length<=(bytes ops).length:=by
 intro ops;induction ops with
 |nil=>exact aF _
 |cons o r pS=>exact by rw[tY,aa,a8,bk];exact dZ (GZ o) (pS)
theorem Ea(ps:List Pd)(last:Int)(pos:Nat)(q:List Int):∃b t,vT ps last pos++248::q=b::t/\(0<=b/\b<256):=by
 induction ps using aH with
 |nil=>exact⟨248,q,rfl,by decide⟩
 |cons p ps=>exact⟨139,_,rfl,by decide⟩
section
variable{L:List Fn}{H0:MH}{l q:List Int}{fw:FW}{fa:Int->Addr}{fd sa ka da pl:Addr}{fes:List (Int×V)}
theorem I0(hd:7<=d)(hl:l.length<=pq)(hn:H0 sa=none/\H0 da=none/\H0 pl=none/\H0 ka=none)(hF:rX H0 fw fa fd fes)(CC:∀n x w,fw n x=some w->n=1\/n=2):∀(ps:List Pd) (kn:List Int) (last dp:Int) (pos:Nat) (pv:List V) (H:MH) (b:Int) (t:List Int) (l8 l9 B4:V),yt fw kn ps Ut->vz kn->Sm last->(∀b o,H0 b=some o->H b=some o)->H sa=some (qH l (pos+1))->H da=some (uR cm pl ka 0 0 dp)->H pl=some (.list pv)->(∃ep,H ka=some (.dict (wz kn) ep))->pv.length+ps.length<=pq->vT ps last pos++248::q=b::t->At l (pos+1) t->
  (∀H' l8 l9 B4 n,vz Ut->(∀b o,H0 b=some o->H' b=some o)->H' sa=some (qH l (n+1))->n+1+q.length=l.length->H' da=some (uR cm pl ka 0 0 (zY dp ps))->H' pl=some (.list (pv++ps.map D9))->(∃ep,H' ka=some (.dict (wz Ut) ep))->At l (n+1) q->Sm (vn ps last pos)->K .next [l0,.ref fd,.ref sa,l3,l4,.ref da,.int (vn ps last pos),.int 248,l8,l9,B4] H')->
  yx (sX Th (pz Th (pB L) d) (.cmp .ne (.v 7) (.c (.int 248))) E) (vB Th (pz Th (pB L) d) (qk (qY Lj.body 7)) E) (ps.length+1) [l0,.ref fd,.ref sa,l3,l4,.ref da,.int last,.int b,l8,l9,B4] H K:=by
 intro x_;induction x_ with
 |nil=>
  intro kn last dp pos pv H b t l8 l9 B4 ok kok sl h0 hs Ik IZ CD hlen e ha K;cases ok;injection e with e1 e2
  subst e1 e2;refine qV fun R hR=>?_;simp![sX];exact K H _ _ _ pos kok h0 hs ha.len.symm Ik (by rw[jB,aO];exact IZ) CD ha sl
 |cons p ps ih=>
  intro kn last dp pos pv H b t l8 l9 B4 ok kok sl h0 hs Ik IZ ao4 hlen e ha K;obtain⟨ep,CD⟩:=ao4;cases ok with
  |cons ok oks=>
  rw[show vT (p::ps) last pos=FI p last++vT ps pos (pos+(FI p last).length)from rfl]at e;have e0:FI p last++(vT ps pos (pos+(FI p last).length)++248::q)=139::(vf p.cs 10 0++(be 4 last++(bytes p.ops++140::(vT ps pos (pos+(FI p last).length)++248::q)))):=by unfold FI;simp only[bT,ax];rfl
  rw[ax,e0]at e;have el:=congrArg dj e0;rw[aa,a8]at el;injection e with e1 e2
  subst e1 e2;have MQ:=ha.len;have BL:p.ops.length+1<=pq:=by simp only[aa,a8]at MQ;exact ao3 (Pn p.ops) MQ hl (bI _ _)
  have ds:da≠sa:=rV Ik hs nofun;have QJ:pl≠sa:=rV IZ hs nofun;have ks:ka≠sa:=rV CD hs nofun;have dk:da≠ka:=rV Ik CD nofun;have pk:pl≠ka:=rV IZ CD nofun;have pd:pl≠da:=rV IZ Ik nofun;refine qV fun R hR=>?_;simp![sX];simp![vB,Lj,qY,qk];have Gs:∀b o,minus (minus H sa) ka b=some o->H b=some o:=fun b o e=>(p9 (p9 e).2).2;have Gof:∀b o,b≠sa->b≠ka->H b=some o->minus (minus H sa) ka b=some o:=fun b o h1 h2 e=>qi h2 (qi h1 e);have gn:minus (minus H sa) ka sa=none/\minus (minus H sa) ka ka=none:=⟨by unfold minus;rw[if_neg ks.symm,if_pos rfl],tZ⟩;have G0:∀b o,H0 b=some o->minus (minus H sa) ka b=some o:=fun b o e=>Gof _ _ (fun z=>by rw[z,hn.1]at e;exact Z.nS e) (fun z=>by rw[z,hn.2.2.2]at e;exact Z.nS e) (h0 _ _ e);have gdv:=Gof _ _ ds dk Ik;have gpl:=Gof _ _ QJ pk IZ;generalize minus (minus H sa) ka=G at Gs Gof gn G0 gdv gpl;refine Cc (H0:=G) (qB hd rfl) hl Gs gn hs ⟨ep,CD⟩ kok (hF.more G0) CC ok.hs sl ok.run ok.rc ok.st BL ok.rl ha fun H1 A k1 c1 cs1 as ak h1 a1=>?_;obtain⟨sa',pa,sk,ro,ka'⟩:=A;have h1:=(show sa'=sa from as)▸h1;have h1:=(show ka'=ka from ak)▸h1;have n1:=h1.nn gdv;have n2:=h1.nn gpl;have d1:=h1.old _ _ gdv;have p1:=h1.old _ _ gpl;have pa1:H1 pa=some (Ve p.s.h p.s.v c1 p.s.fn sk (max p.s.dp p.s.rO.length) ro):=h1.pa;have ro1:H1 ro=some (.list p.s.rows):=h1.ro;have sa1:H1 sa=some (qH l k1):=h1.sa;lia;have pn:pl≠pa:=n2.2.1;have ns:=QJ.symm;have C8:=ds.symm;have pn':=pn.symm;have pd':=pd.symm;have k1e:k1=pos+(FI p last).length:=by have:=a1.len;exact Z.o 0x11110011117110011110117b81d7c113911d7113c1ba173a9187 [] [_,_,_,_,_,_] rfl el MQ this
  subst k1e;have sp:Sm (pos:Int):=by unfold Sm;have:pq=8388608:=rfl;exact Z.we (Z.o 0x111086fffffff78350 [] [_] rfl) (Z.o 0x111101111600000863a7b11381197a953fffffff783860 [] [_,_,_,_] rfl hl MQ this)
  obtain⟨b',t',eb,GP⟩:=Ea ps pos (pos+(FI p last).length) q;have a1:=eb▸a1;have Yk:pv.length+(ps.length+1)<=pq:=hlen;refine .Ni ro1 ok.rl ⟨_,p1,qS.app (ae (aC _ _) hlen) ?_⟩;lia;rw[Bk];refine q8 (qB hd rfl) (pj C8 (pj ns sa1)) hl a1 GP ?_;lia;rw[show((pos+1:Nat):Int) - 1=pos from dc (pos:Int) 1];obtain⟨Am,ka1⟩:=h1.ka;have nk:=n1.2.2.2.2.symm;have nk':=n2.2.2.2.2.symm;refine hR _ _ (ih p.s.kn pos (max dp (max p.s.dp p.s.rO.length)) (pos+(FI p last).length) (pv++[D9 p]) _ b' t' _ _ _ oks h1.kl sp (fun b o e=>?_) up_eq (pj ds up_eq) (pj QJ (pj pd up_eq)) ⟨Am,pj ks (pj nk (pj nk' ka1))⟩ (by rw[aa,aQ,bk [D9 p].length];exact Yk) eb a1.one fun H' l8 l9 B4 n z0 z1 z2 z3 z4 z5 z6 z7 z8=>K H' l8 l9 B4 n z0 z1 z2 z3 z4 (by rw[ax]at z5;exact z5) z6 z7 z8);have Hq:∀x,H0 x=none->b≠x:=fun x hx z=>by rw[z,hx]at e;exact Z.nS e
  exact pj (Hq _ hn.1) (pj (Hq _ hn.2.1) (pj (Hq _ hn.2.2.1) (h1.old _ _ (G0 _ _ e))))
end
def postR(ks:List Int)(last sO wide deep uP:Int)(n m:Nat):List Int:=be 4 last++(units++(be 4 sO++(be 4 wide++(be 2 deep++(be 2 uP++(su ks++249::(be 4 n++2::aK m 223)))))))
section
variable{L:List Fn}{fw:FW}{fa:Int->Addr}{fd:Addr}{fes:List (Int×V)}
theorem Ce(hd:8<=d)(hl:l.length<=pq)(hF:rX H fw fa fd fes)(CC:∀n x w,fw n x=some w->n=1\/n=2)(oks:yt fw [] ps kn)
  (s2:Sm sO)(s3:Sm wide)(s4:0<=deep/\deep<65536)(s5:ps.length<65536)(s6:zY 0 ps<=deep)(ok:vz ks)(sub:∀x∈ks,x∈kn)(len:ks.length=kn.length)(hm:4<=m)
  (el:l=B7++(vT ps (-1) 23++248::postR ks (vn ps (-1) 23) sO wide deep ps.length n m))(en:n=(B7++vT ps (-1) 23).length)
  (K:∀H' da pl ka,(∀b o,H b=some o->H' b=some o)->H' da=some (uR (nI glue) pl ka sO wide (zY 0 ps))->H' pl=some (.list (ps.map D9))->(∃ep,H' ka=some (.dict (wz kn) ep))->Q (.ref da) H'):pz Th (pB L) d 94 [.bytes l,.ref fd] H Q E:=by
 have a0:At l 0 (247::2::(units++(8::(nI glue++(vT ps (-1) 23++248::postR ks (vn ps (-1) 23) sO wide deep ps.length n m))))):=by refine⟨[],?_,rfl⟩;rw[el];unfold B7;simp only[ax,bT,cU]
 have a1:=a0.one;have a2:=a1.one;have a3:=a2.next;have a4:=a3.one;have a5:=a4.next;obtain⟨b',t',eb,GP⟩:=Ea ps (-1) 23 (postR ks (vn ps (-1) 23) sO wide deep ps.length n m);refine call_of (fn:=Lj) (qB hd rfl) rfl rfl ?_;simp![Lj];intro sa nsa;refine D7 (pV hd rfl) ?_;have f1:∀b o,H b=some o->∀k,(H.upd sa (qH l k)) b=some o:=fun b o e k=>pj (px nsa e) e;lia;refine q8 (pV hd rfl) up_eq hl a0 ⋯ ?_;rw[pF];lia;refine q8 (pV hd rfl) up_eq hl a1 ⋯ ?_;rw[pF];lia;refine wB (pV hd rfl) up_eq hl a2 ?_;rw[pF];unfold uV;lia;refine q8 (pV hd rfl) up_eq hl a3 ⋯ ?_;rw[pF];lia;refine xr (x:=nI glue) (pV hd rfl) up_eq hl a4 ?_;rw[pF];lia;intro da Yc;have zd:=pA Yc;refine D8 (da:=da) (cm:=nI glue) (pV hd rfl) Yc fun H1 pl ka o1 Pm nka p1 p2 g1 g2 g3=>?_;have zp:=pA Pm;have zk:=pA nka;have s1:=o1 _ _ (up_eq (H:=H) (a:=sa) (o:=qH l (15+(nI glue).length)));obtain⟨ep,g3⟩:=g3;rw[eb]at a5;lia;refine q8 (pV hd rfl) s1 hl a5 GP ?_;lia;refine⟨ps.length+1,I0 (cm:=nI glue) (pV hd rfl) hl ⟨nsa,zd.2,zp.2,zk.2⟩ hF CC ps [] (-1) 0 23 [] _ b' t' _ _ _ oks ⟨nh,fun J h=>nomatch h⟩ (by unfold Sm;decide) (fun b o e=>pj (px nsa e) (o1 _ _ (f1 _ _ e _))) up_eq (pj zd.1 g1) (pj zp.1 g2) ⟨ep,pj zk.1 g3⟩ (by rw[bZ,cJ];exact bC (ly s5 ⋯)) eb a5.one fun H4 l8 l9 B4 n4 z0 z1 z2 z3 z4 z5 z6 z7 z8=>?_⟩;have ll:=congrArg dj el;rw[aa,aa,a8]at ll;rw[aa]at en;have n4e:n4=n:=Z.o 0x110110011117011011110117113c1b1a1d7dc1138117ba1973987 [] [_,_,_,_,_,_] rfl en z3 ll;subst n4e;lia;refine Cd (pV hd rfl) hl z1 ⟨nsa,zd.2⟩ hF z2 z4 z5 z6 z8 s2 s3 s4 ⟨bU _,bR.mpr s5⟩ s6 (by rw[cU,ah]) (by have:pq=8388608:=rfl;exact Z.o 0x110111111600000863a79b1138117a9530000000019386 [] [_,_,_,_] rfl hl z3 this) ok sub len hm z7 fun H5 y1 y2 y3 y4=>?_;lia;exact K H5 da pl ka y1 y2 y3 y4
end
section
variable{L:List Fn}{H:MH}
theorem FJ(hd:2<=d)(b:qc x)(k:Q (.bool true) H):pz Th (pB L) d 53 [.int x] H Q E:=by refine call_of (fn:=S6) (qB hd rfl) rfl rfl ?_;simp![S6];exact qh (pV hd rfl) (fun J=>k) fun z=>absurd (show -1073741823<=x/\x<=1073741823 by unfold qc at b;exact⟨Z.ZI b rfl,Z.ncl b rfl⟩) z
theorem FK(hd:2<=d):∀(xs:List Int) (l1:V),(∀x∈xs,qc x)->(∀l1,K .next [l0,l1] H)->rY (lp Th (pz Th (pB L) d) (.v 1) (qk (qY Lc.body 0)) E) (fun J=>True) (iL xs) [l0,l1] H K:=by
 intro xs;induction xs with
 |nil=>exact fun l1 J k=>⟨trivial,k l1⟩
 |cons x xs Dl=>exact fun l1 h k=>by refine pQ trivial fun R hR=>?_;simp![lp,Lc,qY,qk];refine FJ hd (h x (.head _)) ?_;lia;exact hR _ _ (Dl _ (fun y hy=>h y (.tail _ hy)) k)
theorem ua(hd:3<=d)(h:∀x∈xs,qc x)(hl:xs.length<=pq)(k:Q .none H):pz Th (pB L) d 54 [.tup (iL xs)] H Q E:=by refine call_of (fn:=Lc) (qB hd rfl) rfl rfl ?_;simp![Lc];refine .tup (by rw[ah];exact hl) (FK (pV hd rfl) xs _ h fun l1=>?_);exact k
theorem vg(h: -100000000<=x/\x<=100000000):qc x:=by unfold qc;exact Z.Hm h.1 h.2 rfl
theorem zZ{w1 w2:Int}(hd:5<=d)(h:H a=some (.dict [(65,x9 w1),(200,x9 w2)] ep))(b1:qc w1)(b2:qc w2)(k:Q .none H):pz Th (pB L) d 56 [.ref a,.int 0] H Q E:=by
 refine call_of (fn:=Ld) (qB hd rfl) rfl rfl ?_;simp![Ld];have turn:∀(c w:Int) (l2 l3 l4 l5:V) (R K:Loc->MH->Prop) (KK:QF),0<=c/\c<=255->qc w->(∀l2 l3 l4 l5,R [.ref a,.int 0,l2,l3,l4,l5] H)->lp Th (pz Th (pB L) (d - 1)) (.tup (.cons (.v 2) (.cons (.v 3) .nil))) (qk (qY Ld.body 0)) E (.tup [.int c,x9 w]) [.ref a,.int 0,l2,l3,l4,l5] H (fK R KK):=fun c w l2 l3 l4 l5 R K KK hc b kR=>by
  unfold x9;simp![lp,Ld,qY,qk];refine qh (pV hd rfl) (fun J=>?_) fun z=>absurd hc z;lia;refine .rS (av rfl) ?_;lia;refine .tup .none .int (av rfl) ?_;rw[show rR [V.int w,V.int 5,V.int 0,V.int 0,V.int 0,V.int 0] none (some 4)=iL [w,5,0,0]from rfl];refine ua (pV hd rfl) (fun x hx=>?_) (av rfl) ?_
  ·rcases aA.mp hx with rfl|hx
   ·exact b
   ·rcases aA.mp hx with rfl|hx
    ·exact vg ⋯
    ·refine(jE (n:=2) (show x∈aK 2 0 from hx))▸?_;exact FA
  lia;refine(qh (pV hd rfl) (fun J=>?_) fun z=>absurd ⋯ z);lia;refine qh (pV hd rfl) (fun J=>?_) fun z=>absurd ⋯ z;lia;exact kR _ _ _ _
 refine⟨a,_,ep,rfl,h,av rfl,?_⟩;refine pQ (ok:=fun H'=>H' a=some (.dict [(65,x9 w1),(200,x9 w2)] ep)) h fun R hR=>turn 65 w1 _ _ _ _ R R _ ⋯ b1 fun l2 l3 l4 l5=>hR _ _ ?_;refine pQ (ok:=fun H'=>H' a=some (.dict [(65,x9 w1),(200,x9 w2)] ep)) h fun R hR=>turn 200 w2 _ _ _ _ R R _ ⋯ b2 fun l2 l3 l4 l5=>hR _ _ ⟨h,?_⟩;exact k
theorem yB{w1 w2:Int}(hd:1<=d)(h:H a=some (.dict [(65,x9 w1),(200,x9 w2)] ep))(k:Q .none H):pz Th (pB L) d 57 [.ref a] H Q E:=by
 refine call_of (fn:=Le) hd rfl rfl ?_;simp![Le];have turn:∀(c w:Int) (l1 l2 l3:V) (R K:Loc->MH->Prop) (KK:QF),p8 c [(65,x9 w1),(200,x9 w2)]=some (x9 w)->(∀l1 l2 l3,R [.ref a,l1,l2,l3] H)->lp Th (pz Th (pB L) (d - 1)) (.v 1) (qk (qY Le.body 0)) E (.int c) [.ref a,l1,l2,l3] H (fK R KK):=fun c w l1 l2 l3 R K KK hc kR=>by simp![lp,Le,qY,qk];refine⟨1,qV fun R' J=>?_⟩;simp![sX];refine .Ep h (An (hc▸(ix _)) ?_);lia;refine .uH h hc ?_;unfold x9;lia;exact kR _ _ _
 refine .uH h (av rfl) ?_;have hk:∃tK,H a=some (.dict tK ep)/\tK.map ar=[(65,x9 w1),(200,x9 w2)].map ar:=⟨_,h,rfl⟩;refine pQ (ok:=fun H'=>∃tK,H' a=some (.dict tK ep)/\tK.map ar=[(65,x9 w1),(200,x9 w2)].map ar) hk fun R hR=>turn 65 w1 _ _ _ R R _ rfl fun l1 l2 l3=>hR _ _ ?_;refine pQ (ok:=fun H'=>∃tK,H' a=some (.dict tK ep)/\tK.map ar=[(65,x9 w1),(200,x9 w2)].map ar) hk fun R hR=>turn 200 w2 _ _ _ R R _ rfl fun l1 l2 l3=>hR _ _ ⟨hk,?_⟩;exact k
theorem yf(hd:1<=d)(k:Q .none H):pz Th (pB L) d 58 [.tup [],.tup [],.ref a,.int 256] H Q E:=by refine call_of (fn:=S7) hd rfl rfl ?_;simp![S7];refine .rS (bW _) ?_;lia;exact k
theorem AS(hd:1<=d)(k:Q (.int (-1)) H):pz Th (pB L) d 59 [.tup []] H Q E:=by refine call_of (fn:=S8) hd rfl rfl ?_;simp![S8];refine .rS (bW _) ?_;lia;exact k
theorem Cf(hd:1<=d)(rL:n=1\/n=2)(k:Q (.str ⟨#[102,(96+n).toNat]⟩) H):pz Th (pB L) d 71 [.int n] H Q E:=by refine call_of (fn:=Te) hd rfl rfl ?_;simp![Te];refine .mod ⋯ ?_;refine(dx (Z.o 0x1111281130111382030 [_] [] rfl (Z.hl rL rfl)) (Z.o 0x111122138019123113821 [_] [] rfl (Z.hh rL rfl))).symm▸?_;refine .str (c:=(96+n).toNat) (Z.o 0x1111281130111382030 [_] [] rfl (Z.hl rL rfl)) (Z.o 0x111122138018e333113821 [_] [] rfl (Z.hh rL rfl)) (by rcases rL with rfl|rfl<;>rfl) ⟨1,qV fun R J=>?_⟩;simp![sX];refine tD (Z.o 0x111122138011138291233 [_] [] rfl (Z.hh rL rfl)) ?_;refine .VL (av rfl) ?_;exact k
end
section
variable{L:List Fn}{H:MH}
noncomputable def Mg:List Int:=[0,196608,98304,65536,262144,655360,65536]
theorem Po:∀x∈Mg,qc x:=fun x hx=>vg (by
 have:∀x∈Mg,-100000000<=x/\x<=100000000:=by decide
 exact this x hx)
noncomputable def Vi(n:Int):PySem.Str:=⟨#[102,(96+n).toNat]⟩
def MY(w1 w2:Int):List (Int×V):=[(65,x9 w1),(200,x9 w2)]
theorem I1{n w1 w2:Int}(hd:6<=d)(rL:n=1\/n=2)(ha:H a=none)(hc:H ca=some (.dict (MY w1 w2) epc))(b1:qc w1)(b2:qc w2)
  (K:∀H' pr ch ep,(∀b o,H b=some o->H' b=some o)->H' a=some (zM n (Vi n) pr ch)->H' ch=some (.dict (MY w1 w2) ep)->Q .none H'):
  pz Th (pB L) d 60 [.ref a,.int n,.str (Vi n),.int 655360,.tup (iL Mg),.ref ca,.tup [],.tup [],.int 256] (H.upd a (.inst 775 [])) Q E:=by have c0:(H.upd a (.inst 775 [])) ca=some (.dict (MY w1 w2) epc):=pj (px ha hc) hc;refine call_of (fn:=S9) (qB hd rfl) rfl rfl ?_;simp![S9];refine qh (pV hd rfl) (fun J=>?_) fun z=>absurd (⟨Z.o 0x1111281130181130 [_] [] rfl (Z.hl rL rfl),Z.o 0x11112213801ff2380 [_] [] rfl (Z.hh rL rfl)⟩) z;lia;refine .eqS (tD (by rcases rL with rfl|rfl<;>exact fun z=>by have:=congrArg PySem.Str.length z;exact absurd this ⋯) ?_);lia;refine qh (pV hd rfl) (fun J=>?_) fun z=>absurd ⋯ z;lia;refine qh (pV hd rfl) (fun J=>?_) fun z=>absurd ⋯ z;lia;refine .rS (av rfl) ?_;lia;refine ua (pV hd rfl) Po (av rfl) ?_;lia;refine ua (xs:=[]) (pV hd rfl) (fun x hx=>nomatch hx) (bW _) ?_;lia;refine .rS (bW _) ?_;refine zZ (pV hd rfl) c0 b1 b2 ?_;lia;refine yB (pV hd rfl) c0 ?_;lia;refine yf (pV hd rfl) ?_;lia;refine .Qb (av rfl) fun pr npr=>?_;have z1:=pA npr;have n1:=z1.1.symm;have cp:=px z1.2 hc;lia;refine .dict (pj (px ha hc) (pj cp (pj (px ha hc) hc))) (av rfl) fun ep ch nch=>?_;have z2:=pA nch;have z3:=pA z2.2;have z4:=pA z3.2;have n2:=z2.1.symm;lia;refine .Nj ?_;lia;refine .Nj ?_;lia;refine AS (pV hd rfl) ?_;lia;exact K _ pr ch ep (fun b o e=>pj (px ha e) (pj (px z4.2 e) (pj (px ha e) (pj (px z1.2 e) (pj (px ha e) e))))) up_eq (pj z2.1 up_eq)
theorem vo{n w1 w2:Int}(hd:7<=d)(rL:n=1\/n=2)(hr:H rl=some (.list [.tup [.int 65,.int w1,.int 5,.int 0],.tup [.int 200,.int w2,.int 5,.int 0]]))(b1:qc w1)(b2:qc w2)
  (K:∀H' a pr ch ep,(∀b o,H b=some o->H' b=some o)->H' a=some (zM n (Vi n) pr ch)->H' ch=some (.dict (MY w1 w2) ep)->Q (.ref a) H'):
  pz Th (pB L) d 72 [.int n,.ref rl] H Q E:=by
 refine call_of (fn:=Lf) (qB hd rfl) rfl rfl ?_;simp![Lf];refine qh (pV hd rfl) (fun J=>?_) fun z=>absurd (⟨Z.o 0x1111281130181130 [_] [] rfl (Z.hl rL rfl),Z.o 0x11112213801ff2380 [_] [] rfl (Z.hh rL rfl)⟩) z;lia;refine(fun ep ca nca=>?_);have r1:∀o,(H.upd ca o) rl=_:=fun o=>pj (px nca hr) hr;lia;have turn:∀(c w:Int) (es:List (Int×V)) (ep:Nat) (l7:V) (R:Loc->MH->Prop) (KK:QF),p8 c es=none->es.length<16384->(∀ep l7,R [.int n,.ref rl,.tup (iL Mg),.tup [],.tup [],.int 256,.ref ca,l7] (H.upd ca (.dict (dput c (x9 w) es) ep)))->
   lp Th (pz Th (pB L) (d - 1)) (.v 7) (qk (qY Lf.body 2)) E (.tup [.int c,.int w,.int 5,.int 0]) [.int n,.ref rl,.tup (iL Mg),.tup [],.tup [],.int 256,.ref ca,l7] (H.upd ca (.dict es ep)) (fK R KK):=fun c w es ep l7 R KK hc hl kR=>by
  simp![lp,Lf,qY,qk]
  refine .rS (av rfl) ?_
  lia
  refine .Ep up_eq (tD (fun z=>z hc) ?_)
  lia
  refine .Nj ?_
  refine .Q6 (av rfl) ?_
  lia
  refine .tup .int .int (av rfl) ?_
  lia
  refine .uH up_eq hl fun Am=>?_
  rw[pF]
  exact kR Am _
 refine .lst (r1 _) (av rfl) ?_;refine pQ (ok:=fun H'=>H' rl=some (.list [.tup [.int 65,.int w1,.int 5,.int 0],.tup [.int 200,.int w2,.int 5,.int 0]])) (r1 _) fun R hR=>turn 65 w1 [] _ _ R _ rfl ⋯ fun XZ l7=>hR _ _ ?_;refine pQ (ok:=fun H'=>H' rl=some (.list [.tup [.int 65,.int w1,.int 5,.int 0],.tup [.int 200,.int w2,.int 5,.int 0]])) (r1 _) fun R hR=>turn 200 w2 [(65,x9 w1)] _ _ R _ rfl (f9 (dD 1) ⋯) fun L6 l7=>hR _ _ ⟨r1 _,?_⟩;have oc:∀b o,H b=some o->(H.upd ca (.dict (MY w1 w2) L6)) b=some o:=fun b o e=>pj (px nca e) e;lia;refine Cf (pV hd rfl) rL ?_;lia;intro a na;refine I1 (pV hd rfl) rL na up_eq b1 b2 fun H' pr ch Am k1 k2 k3=>?_;lia;exact K H' a pr ch Am (fun b o e=>k1 _ _ (oc _ _ e)) k2 k3
end
noncomputable def xx(c t m:Int):O:=.list [.int c,.int t,.int m]
section
variable{L:List Fn}{H:MH}{b:Addr}
theorem qa(hd:1<=d)(h:H b=some (xx c t m))(ht:0<=t/\t<=1000000)(hm:0<=m/\m<1000003)(hn:0<n/\n<=100)(K:∀v c' t',0<=v->v<n->0<=t'->t'<=t+1->Q (.int v) (H.upd b (xx c' t' m))):pz Th (pB L) d 96 [.ref b,.int n] H Q E:=by
 refine call_of (fn:=TH) hd rfl rfl ?_;simp![TH];refine .lst h ⋯ rfl rfl ?_;refine .pow ⋯ ⋯ ⋯ ?_;lia;refine vK (fun z=>?_) fun z=>?_
 ·lia;refine .lst h ⋯ rfl rfl ?_;refine .mod (fun zz=>Z.o 0x11110403828031200f [_] [] rfl hn.1 zz) ?_;lia;refine .lst h ⋯ rfl rfl ?_;refine .fdiv (fun zz=>Z.o 0x11110403828031200f [_] [] rfl hn.1 zz) (Z.ab9 hn.1 hn.2 rfl) ?_;refine .lst h ⋯ rfl ?_;exact K _ _ t (bt _ hn.1) (bP _ hn.1) ht.1 (Z.o 0x11101138180 [_] [] rfl)
 ·lia;refine .lst h ⋯ rfl rfl ?_;lia;refine .lst h ⋯ rfl ?_;lia;refine .lst up_eq ⋯ rfl rfl ?_;refine .lst up_eq ⋯ rfl rfl ?_;refine .mul ⋯ (Z.wl (Z.o 0x111128030111381000000000000000010000000f3651 [_] [] rfl ht.1) (Z.o 0x111120424f53801000000000000000010000000f36113811 [_] [] rfl ht.2)) ?_;lia;refine .pow ⋯ ⋯ (Z.wl (Z.o 0x11fbb1411380309030273e44311391fbb144811000000000000000010000000f3651 [_,_] [] rfl ht.1 hm.1) (Z.o 0x11fbb141133424f53810424f53902000000000000000010000000f3673e44311391fbb1448111 [_,_] [] rfl ht.2 hm.2)) ?_;refine .mod ⋯ ?_;lia;have b0:0<=((m+7103*(t+1)+20023)^5).fmod 2147483647:=bt _ ⋯;have b1:((m+7103*(t+1)+20023)^5).fmod 2147483647<2147483647:=bP _ ⋯;generalize ((m+7103*(t+1)+20023)^5).fmod 2147483647=x at b0 b1 ⊢;refine .mul (Z.Vw b0 b1 rfl) (Z.Vw b0 b1 rfl) ?_;refine .mod ⋯ ?_;refine .fdiv ⋯ ⋯ ?_;refine .mod (fun zz=>Z.o 0x11110403828031200f [_] [] rfl hn.1 zz) ?_;exact K _ c (t+1) (bt _ hn.1) (bP _ hn.1) (Z.o 0x111128030111381030 [_] [] rfl ht.1) (cz _)
theorem Mh(Yl:ok H):∀(xs:List Int) (acc:List Int) (u1:V) (Q:List V->MH->Prop),(∀is,Q (iL is) H)->sF (qx Th (pz Th (pB L) d) (.v 1) (.c (.bool true)) (.blt .abs (.cons (.blt .yi (.cons (.v 1) .nil)) .nil))) ok (iL xs) (iL acc) [u0,u1] H Q:=by
 intro xs;induction xs with
 |nil=>exact fun acc u1 Q k=>⟨Yl,k acc⟩
 |cons x xs Dl=>exact fun acc u1 Q k=>by refine⟨Yl,?_⟩;simp![qx];refine .toI ?_;lia;rw[show uU (iL acc) (some (V.int (x.natAbs:Int)))=iL (acc++[(x.natAbs:Int)])from qZ _ _];exact Dl _ _ Q k
theorem z9{k:Nat}(hd:1<=d)(h:H sl=some (.list (iL xs)))(hl:xs.length<=100)(hk:k<=100)(K:∀c m a,0<=m->m<1000003->H a=none->∀H',(∀b o,H b=some o->H' b=some o)->H' a=some (xx c 0 m)->Q (.ref a) H'):pz Th (pB L) d 95 [.ref sl,.int (k:Int)] H Q E:=by
 refine call_of (fn:=TG) hd rfl rfl ?_;simp![TG];refine .ud h (by rw[ah];exact(ae hl ⋯)) ?_;rw[ah];lia;refine vK (fun z=>?_) fun z=>?_
 ·have z:=bR.mp z;lia;refine .lst h (vR (m:=0) (ae hk ⋯)) (by rw[ah];exact sU z) (by rw[bO,bc z];rfl) ?_;refine .toI ?_;lia;refine .mod ⋯ ?_;exact fun a na=>K _ _ a (bt _ ⋯) (bP _ ⋯) na _ (fun b o e=>pj (px na e) e) up_eq
 ·lia;refine .mul ⋯ (Z.lb1 hk rfl) ?_;lia;refine .lst h (by rw[ah];exact(ae hl ⋯)) ⟨by rw[ah];exact(ae hl ⋯),Mh (ok:=fun H'=>H' sl=some (.list (iL xs))) h xs [] _ _ fun is=>fun r nr=>?_⟩;refine .sum up_eq (xq _) (.mod ⋯ ?_);lia;refine .mod ⋯ ?_;refine fun a na=>?_;exact K _ _ a (bt _ ⋯) (bP _ ⋯) (pA na).2 _ (fun b o e=>pj (px (pA na).2 e) (pj (px nr e) e)) up_eq
end
structure Cg(s t:SS):Prop where
 F:s.F=t.F
 k:s.rO=t.rO
 r:s.rows=t.rows
theorem Cg.uo(h:Cg s t):Cg s.uo t.uo:=⟨h.F,by unfold SS.uo;rw[h.F,h.k,h.r],h.r⟩
theorem Cg.to{r:V}(h:Cg s t):Cg (s.to x y f e (s.rows++[r])) (t.to x y f e' (t.rows++[r])):=
 ⟨by unfold SS.to;rw[h.F],h.k,by unfold SS.to;rw[h.r]⟩
theorem Cg.box(h:Cg s t)(g:Cg s2 t2):Cg (rF D s s2) (rF D t t2):=by
 unfold rF;refine h.r▸?_;refine g.r▸?_;split
 ·exact h
 ·exact⟨by rw[h.F,g.F],h.k,rfl⟩
theorem Cg.it(h:Cg s t)(g:Cg s2 t2):∀i,Cg (B1 fa x y s s2 i) (B1 fa x y t t2 i)
 | .chr _ _ _=>h.to
 | .yJ _=>h
 | .uk w hh d=>by
  show Cg (if 0<hh+d/\0<w then _ else _) (if 0<hh+d/\0<w then _ else _)
  split
  ·have:=h.to (x:=x+w) (y:=y+d) (f:=s.F.fn) (e:=s.es) (e':=t.es) (r:=DN x (y+d) (hh+d) w)
   rw[show t.F.fn=s.F.fn by rw[h.F]]
   exact this
  ·exact h
 | .uC l=>by
  have:=h.to (x:=x) (y:=y) (f:=s.F.fn) (e:=s.es) (e':=t.es) (r:=BX x y l)
  show Cg _ (t.to x y t.F.fn t.es (t.rows++[BX x y l]))
  rw[show t.F.fn=s.F.fn by rw[h.F]]
  exact this
 | .box _ _ _ _ _=>g
theorem Pp:∀(ts:Tr) (X Y D x:Int) (s t:SS),Cg s t->Cg (uG fa ts X Y D x s) (uG fa ts X Y D x t):=by
 intro x_;induction x_ with
 |nil=>intro _ _ _ _ _ _ h;exact h
 |cons _ i sub r qW ih=>intro X Y D x s t h;exact ih _ _ _ _ _ _ (h.it (h.box (qW _ _ _ _ _ _ h.uo)) i)
noncomputable def QK:It->List Int
 | .chr n _ _=>[n]
 |_=>[]
def vh:Tr->List Int
 | .nil=>[]
 | .cons _ i sub r=>QK i++(vh sub++vh r)
def Mi:It->Tr->Prop
 | .box _ _ _ _ _,_=>True
 |_,sub=>sub=.nil
def Mj:Tr->Prop
 | .nil=>True
 | .cons _ i sub r=>Mi i sub/\Mj sub/\Mj r
theorem Mk:k∈(AM fa n es).map ar↔k∈es.map ar\/k=n:=by
 unfold AM;split
 ·exact⟨.inl,fun h=>h.elim id fun e=>e▸by assumption⟩
 ·rw[aG,aM];exact or_congr Iff.rfl aI
theorem I2:∀(ts:Tr) (X Y D x:Int) (s:SS),Mj ts->(k∈(uG fa ts X Y D x s).es.map ar↔k∈s.es.map ar\/k∈vh ts):=by
 intro ts;induction ts with
 |nil=>exact fun _ _ _ _ _ _=>⟨.inl,fun h=>h.elim id fun z=>nomatch z⟩
 |cons _ i sub r qW pS=>
  exact fun X Y D x s h=>by
   have is:=qW (X+x) (Y+i.sh) (D+1) 0 s.uo h.2.1;have ex:=xp (fa:=fa) sub (X+x) (Y+i.sh) (D+1) 0 s.uo;show _↔_\/k∈QK i++(vh sub++vh r);rw[aM,aM,<-or_assoc,<-or_assoc];refine(pS X Y D (x+i.w) (B1 fa (X+x) Y s (rF D s (uG fa sub (X+x) (Y+i.sh) (D+1) 0 s.uo)) i) h.2.2).trans (or_congr ?_ Iff.rfl);have none:∀{P:Prop},(P↔P\/k∈([]:List Int)):=fun{P}=>⟨.inl,fun z=>z.elim id fun z=>nomatch z⟩;have leaf:∀{P:Prop},sub=.nil->(P↔P\/k∈vh sub):=fun{P} e=>e▸none;repeat first|clear fa|clear ts|clear X|clear Y|clear x|clear P|clear (pS X Y D (x+i.w) (B1 fa (X+x) Y s (rF D s (uG fa sub (X+x) (Y+i.sh) (D+1) 0 s.uo)) i) h.2.2)
   induction i using It.casesOn with
   |chr n c w=>exact(Mk.trans (or_congr Iff.rfl aI.symm)).trans (leaf h.1)
   |yJ w=>exact none.trans (leaf h.1)
   |uk w hh d=>refine Iff.trans ?_ (none.trans (leaf h.1));show k∈(if 0<hh+d/\0<w then _ else s:SS).es.map ar↔_;split<;>exact Iff.rfl
   |uC l=>exact none.trans (leaf h.1)
   |box il w hh d sh=>
    refine Iff.trans ?_ (or_congr none Iff.rfl);show k∈(rF D s _).es.map ar↔_;unfold rF;split
    ·rename_i z;rw[(ex.eq z)]at is;exact⟨.inl,fun q=>q.elim id fun q=>is.mpr (.inr q)⟩
    ·exact is
noncomputable def MZ(a b:Int):V->V
 | .tup (.int k::.int h::.int v::r)=>.tup (.int k::.int (h+a)::.int (v+b)::r)
 |x=>x
structure Bo(a b:Int)(s t:SS):Prop where
 n:s.F.fn=t.F.fn
 d:s.F.dp=t.F.dp
 r:t.rows=s.rows.map (MZ a b)
section
variable{a b:Int}
theorem Bo.len(h:Bo a b s t):t.rows.length=s.rows.length:=by rw[h.r,ah]
theorem Bo.uo(h:Bo a b s t):Bo a b s.uo t.uo:=⟨h.n,h.d,h.r⟩
theorem Bo.to{r r':V}(h:Bo a b s t)(hr:r'=MZ a b r):Bo a b (s.to x y f e (s.rows++[r])) (t.to x' y' f e' (t.rows++[r'])):=
 ⟨rfl,h.d,by show t.rows++[r']=(s.rows++[r]).map (MZ a b);rw[aG,h.r,hr];rfl⟩
theorem Bo.box(h:Bo a b s t)(g:Bo a b s2 t2):Bo a b (rF D s s2) (rF D t t2):=by
 unfold rF;refine h.len▸?_;refine g.len▸?_;split
 ·exact h
 ·exact⟨g.n,by show max s2.F.dp _=max t2.F.dp _;rw[g.d],g.r⟩
theorem Bo.it(h:Bo a b s t)(g:Bo a b s2 t2):∀i,Bo a b (B1 fa x y s s2 i) (B1 fa (x+a) (y+b) t t2 i)
 | .chr n c w=>h.to rfl
 | .yJ _=>h
 | .uk w hh d=>by
  show Bo a b (if 0<hh+d/\0<w then _ else _) (if 0<hh+d/\0<w then _ else _)
  split
  ·rw[show t.F.fn=s.F.fn from h.n.symm]
   exact h.to (by rw[ff];rfl)
  ·exact h
 | .uC l=>by
  show Bo a b _ (t.to _ _ t.F.fn _ _)
  exact(show t.F.fn=s.F.fn from h.n.symm)▸(h.to rfl)
 | .box _ _ _ _ _=>g
theorem Pq:∀(ts:Tr) (X Y D x:Int) (s t:SS),Bo a b s t->Bo a b (uG fa ts X Y D x s) (uG fa ts (X+a) (Y+b) D x t):=by
 intro x_;induction x_ with
 |nil=>intro _ _ _ _ _ _ h;exact h
 |cons _ i sub r qW ih=>intro X Y D x s t h;have:=ih X Y D (x+i.w) _ _ (h.it (fa:=fa) (x:=X+x) (y:=Y) (h.box (D:=D) (qW (X+x) (Y+i.sh) (D+1) 0 _ _ h.uo)) i);rw[<-(ff ..),<-(show Y+b+i.sh=Y+i.sh+b from ff ..)]at this;exact this
end
def Ym:It->Prop
 | .chr _ _ w=> -70000<=w/\w<=70000
 | .yJ w=> -70000<=w/\w<=70000
 | .uk w h d=>(-70000<=w/\w<=70000)/\(-70000<=d/\d<=70000)/\(-70000<=h+d/\h+d<=70000)
 | .uC l=>l.length<=16
 | .box _ w _ _ sh=>(-70000<=w/\w<=70000)/\(-70000<=sh/\sh<=70000)
def Vj:Tr->Prop
 | .nil=>True
 | .cons _ i sub r=>Ym i/\Vj sub/\Vj r
def sQ:Tr->Nat
 | .nil=>0
 | .cons _ _ sub r=>sQ sub+sQ r+1
theorem Eb:∀ts:Tr,Vj ts->tq ts<=31*sQ ts:=by
 intro ts;induction ts with
 |nil=>exact fun J=>aF _
 |cons _ i sub r qW pS=>
  exact fun h=>by
   have h1:zS i<=31:=by
    induction i using It.casesOn with
    |uC l=>exact aZ h.1 15
    |_=>exact av rfl
   exact Z.o 0x111111114cf124a5bf12495f123853113cb11f124a98115 [] [_,_,_,_,_] rfl h1 (qW h.2.1) (pS h.2.2)
theorem Yn:∀{i:It},Ym i->-70000<=i.w/\i.w<=70000:=by
 intro i;induction i with
 |chr _ _ _=>exact fun h=>h
 |yJ _=>exact fun h=>h
 |uk _ _ _=>exact fun h=>h.1
 |uC _=>exact fun J=>by show(-70000:Int)<=0/\(0:Int)<=70000;decide
 |box _ _ _ _ _=>exact fun h=>h.1
theorem FL:∀{i:It},Ym i->-70000<=i.sh/\i.sh<=70000:=by
 intro i;induction i with
 |chr _ _ _=>exact @fun J=>by show(-70000:Int)<=0/\(0:Int)<=70000;decide
 |yJ _=>exact @fun J=>by show(-70000:Int)<=0/\(0:Int)<=70000;decide
 |uk _ _ _=>exact @fun J=>by show(-70000:Int)<=0/\(0:Int)<=70000;decide
 |uC _=>exact @fun J=>by show(-70000:Int)<=0/\(0:Int)<=70000;decide
 |box _ _ _ _ _=>exact @fun h=>h.2
theorem bd1{a b c:Int}(h:b+c+70000*((s+r+1:Nat)+1)<=100000000)(g:a<=b+c):a+0+70000*(s+1)<=100000000:=Z.o 0x1111113a9180001e5f5731131139811610711154a91102001e5f5731138610711154038110 [_,_,_] [_,_] rfl h g
theorem bd2{a b c:Int}(h:b+70000*((s+r+1:Nat)+1)<=100000000)(g:a<=b+c)(k:c<=70000):a+70000*(s+1)<=100000000:=Z.o 0x1111111140711153a0a9180001e5f57311311398116107111549103001e5f5731138610711154810 [_,_,_] [_,_] rfl h g k
theorem bd3{a b c d:Int}(h:d+b+70000*((s+r+1:Nat)+1)<=100000000)(g:a<=b+c)(k:c<=70000):d+a+70000*(r+1)<=100000000:=Z.o 0x1111111140711153b0ba190001e5f5731131138911610711154a81103001e5f573113861071115498110 [_,_,_,_] [_,_] rfl h g k
theorem Yo(ts:Tr):∀(X Y x:Int),Vj ts->(X.natAbs:Int)+x.natAbs+70000*(sQ ts+1)<=100000000->(Y.natAbs:Int)+70000*(sQ ts+1)<=100000000->QC ts X Y x:=by
 induction ts with
 |nil=>exact fun J J J J J J=>trivial
 |cons a i sub r is ir=>
  intro X Y x h hx hy;have w:=Yn h.1;refine⟨?_,is _ _ _ h.2.1 (bd1 hx (bq.mpr (gC X x))) (bd2 hy (bq.mpr (gC Y i.sh)) (Z.Hm (FL h.1).1 (FL h.1).2 rfl)),ir _ _ _ h.2.2 (bd3 hx (bq.mpr (gC x i.w)) (Z.Hm w.1 w.2 rfl)) (Z.o 0x11112001e5f5731131139a1161071115486101001e5f57311396107111548610 [] [_,_,_] rfl hy)⟩;have z:=h.1;have AU:∀v:Int,-100000000<=v->v<=100000000->qc v:=fun v h1 h2=>vg ⟨h1,h2⟩;repeat first|clear ts|clear (FL h.1)|clear v|clear h1|clear h2
  induction i using It.casesOn with
  |chr n c w'=>exact⟨AU _ (Z.o 0x1111111149695086850001e5f573113a61071115496861103981001e5f57350 [_,_] [_,_,_] rfl hx (Z.na (x:=X)) (Z.na (x:=x))) (Z.o 0x11111111496908680001e5f573113a61071115496861103001e5f5739810 [_,_] [_,_,_] rfl hx (bF (a:=X)) (bF (a:=x))),AU _ (Z.o 0x111111386850001e5f5731139610711154861028001e5f57350 [_] [_,_] rfl hy (Z.na (x:=Y))) (Z.o 0x11111138680001e5f573113961071115486102001e5f57380 [_] [_,_] rfl hy (bF (a:=Y))),AU _ (by exact Z.o 0x111111111159695086850a071115350001e5f573113a61071115496861104a9811001e5f57350 [_,_,_] [_,_,_] rfl hx w.1 (Z.na (x:=X)) (Z.na (x:=x))) (by exact Z.o 0x11111111115969086800711153a0001e5f573113a61071115496861104001e5f573a98110 [_,_,_] [_,_,_] rfl hx w.2 (bF (a:=X)) (bF (a:=x)))⟩
  |yJ _=>trivial
  |uk w' h' d'=>have z1:=z.1;exact⟨Be (AU _ (Z.ig z.2.2.1 rfl) (Z.il z.2.2.2 rfl)),Be (AU _ (Z.ig z1.1 rfl) (Z.il z1.2 rfl)),AU _ (Z.o 0x1111111149695086850001e5f573113a61071115496861103981001e5f57350 [_,_] [_,_,_] rfl hx (Z.na (x:=X)) (Z.na (x:=x))) (Z.o 0x11111111496908680001e5f573113a61071115496861103001e5f5739810 [_,_] [_,_,_] rfl hx (bF (a:=X)) (bF (a:=x))),AU _ (Z.o 0x111111114868509071115350001e5f573113961071115486103981001e5f57350 [_,_] [_,_] rfl hy z.2.1.1 (Z.na (x:=Y))) (Z.o 0x1111111148680071115390001e5f573113961071115486103001e5f5739810 [_,_] [_,_] rfl hy z.2.1.2 (bF (a:=Y))),AU _ (Z.o 0x111111111159695086850a071115350001e5f573113a61071115496861104a9811001e5f57350 [_,_,_] [_,_,_] rfl hx z1.1 (Z.na (x:=X)) (Z.na (x:=x))) (Z.o 0x11111111115969086800711153a0001e5f573113a61071115496861104001e5f573a98110 [_,_,_] [_,_,_] rfl hx z1.2 (bF (a:=X)) (bF (a:=x)))⟩
  |uC l=>exact⟨AU _ (Z.o 0x1111111149695086850001e5f573113a61071115496861103981001e5f57350 [_,_] [_,_,_] rfl hx (Z.na (x:=X)) (Z.na (x:=x))) (Z.o 0x11111111496908680001e5f573113a61071115496861103001e5f5739810 [_,_] [_,_,_] rfl hx (bF (a:=X)) (bF (a:=x))),AU _ (Z.o 0x111111386850001e5f5731139610711154861028001e5f57350 [_] [_,_] rfl hy (Z.na (x:=Y))) (Z.o 0x11111138680001e5f573113961071115486102001e5f57380 [_] [_,_] rfl hy (bF (a:=Y)))⟩
  |box _ _ _ _ _=>trivial
structure uI where
 a:Addr
 il:Addr
 w:Int
 h:Int
 dd:Int
 sh:Int
 ts:Tr
 cs:List Int
 X:Int
 Y:Int
structure vp(H:MH)(fw:FW)(fa:Int->Addr)(p:uI):Prop where
 o:H p.a=some (va 2 p.w p.h p.dd p.il p.sh)
 l:H p.il=some (.list (AN p.ts))
 s:Lies H fw fa p.ts
 t:Mj p.ts
 z:Vj p.ts
 n:sQ p.ts<=15
 lv:DV p.ts<=3
 bw: -70000<=p.w/\p.w<=70000
 bh:0<=p.h/\p.h<=50
 bd:p.dd=3
 bX: -100000<=p.X/\p.X<=100000
 bY: -100000<=p.Y/\p.Y<=100000
 cs:∀z∈p.cs,Sm z
 cl:p.cs.length<=10
theorem vp.more(h:vp H fw fa p)(k:∀b o,H b=some o->H' b=some o):vp H' fw fa p:=
 ⟨k _ _ h.o,k _ _ h.l,h.s.more k,h.t,h.z,h.n,h.lv,h.bw,h.bh,h.bd,h.bX,h.bY,h.cs,h.cl⟩
def Aa(fa:Int->Addr)(p:uI)(es:Es):SS:=uG fa p.ts p.X (p.Y+p.h) 0 0 (Jh es)
def CF(fa:Int->Addr)(p:uI):V:=.tup [.tup (iL (ye p.cs 10 0)),.tup (Aa fa p []).rows]
noncomputable def qJ(f:uI->Int):Int->List uI->Int
 |m,[]=>m
 |m,p::r=>qJ f (max m (f p)) r
def sv(p:uI):Int:=p.h+p.dd+p.Y
def sx(p:uI):Int:=p.w+p.X
def sy(fa:Int->Addr)(p:uI):Int:=(Aa fa p []).F.dp
theorem vZ:∀(ps:List uI) (m:Int),qJ f m (ps++[p])=max (qJ f m ps) (f p):=by
 intro ps;induction ps with
 |nil=>exact fun J=>rfl
 |cons q r pS=>exact fun m=>pS (max m (f q))
theorem Ci(p:uI)(es:Es):Cg (Aa fa p es) (Aa fa p []):=Pp _ _ _ _ _ _ _ ⟨rfl,rfl,rfl⟩
theorem FN:∀(ps:List Pd) (last:Int) (pos:Nat),vn (ps++[p]) last pos=((pos+(vT ps last pos).length:Nat):Int):=by
 intro ps;induction ps with
 |nil=>exact fun J J=>rfl
 |cons q r pS=>exact fun last pos=>by show vn (r++[p]) _ _=_;rw[pS,aQ,<-aa];rfl
theorem I3:∀(ps:List Pd) (last:Int) (pos:Nat),vT (ps++[p]) last pos=vT ps last pos++FI p (vn ps last pos):=by
 intro ps;induction ps with
 |nil=>exact fun last pos=>aO _
 |cons q r pS=>exact fun last pos=>by show FI q last++vT (r++[p]) _ _=_;rw[pS,<-ax];rfl
theorem FO(h:yt fw kn ps Ut):Yj fw Ut p->yt fw kn (ps++[p]) p.s.kn:=by
 induction h with
 |nil=>exact fun g=>.cons g .nil
 |cons h _ ih=>exact fun g=>.cons h (ih g)
theorem FP(h0:p.s.rO=[])(h1:0<=p.s.dp):∀(ps:List Pd) (m:Int),zY m (ps++[p])=max (zY m ps) p.s.dp:=by
 intro ps;induction ps with
 |nil=>exact fun m=>by show max m (max p.s.dp _)=max m p.s.dp;refine h0▸?_;exact congrArg _ (fU h1)
 |cons q r pS=>exact fun m=>pS _
theorem Uu:∀(ts:Tr) (X Y D x:Int) (s:SS),0<=s.F.dp->0<=(uG fa ts X Y D x s).F.dp:=by
 intro ts;induction ts with
 |nil=>exact fun J J J J J h=>h
 |cons _ i sub r qW pS=>
  exact fun X Y D x s h=>by
   refine pS X Y D (x+i.w) _ ?_;have hb:0<=(rF D s (uG fa sub (X+x) (Y+i.sh) (D+1) 0 s.uo)).F.dp:=by
    unfold rF;split
    ·exact h
    ·exact aT (qW (X+x) (Y+i.sh) (D+1) 0 s.uo h) (fY _ _)
   induction i using It.casesOn with
   |uk w h' d=>show 0<=(if _ then _ else _:SS).F.dp;split<;>exact h
   |box=>exact hb
   |_=>exact h
theorem Bp:∀(ts:Tr) (X Y D x:Int) (s:SS),(uG fa ts X Y D x s).rows.length<=s.rows.length+sQ ts:=by
 intro ts;induction ts with
 |nil=>exact fun J J J J J=>aF _
 |cons _ i sub r qW pS=>
  exact fun X Y D x s=>by
   have h2:=qW (X+x) (Y+i.sh) (D+1) 0 s.uo;refine ae (pS X Y D (x+i.w) (B1 fa (X+x) Y s (rF D s (uG fa sub (X+x) (Y+i.sh) (D+1) 0 s.uo)) i)) ?_;have key:(B1 fa (X+x) Y s (rF D s (uG fa sub (X+x) (Y+i.sh) (D+1) 0 s.uo)) i).rows.length<=s.rows.length+sQ sub+1:=by
    have hs:s.rows.length<=s.rows.length+sQ sub+1:=ae (aC _ _) (bA _);have hm:∀(h v fn:Int) (es:Es) (q:V),(s.to h v fn es (s.rows++[q])).rows.length<=s.rows.length+sQ sub+1:=fun J J J J q=>by show(s.rows++[q]).length<=_;rw[aa];exact bB (aC _ _) 1
    repeat first|clear fa|clear ts|clear X|clear Y|clear D|clear x|clear v|clear fn|clear es|clear q|clear (pS X Y D (x+i.w) (B1 fa (X+x) Y s (rF D s (uG fa sub (X+x) (Y+i.sh) (D+1) 0 s.uo)) i))
    induction i using It.casesOn with
    |chr n c w=>exact hm ..
    |yJ w=>exact hs
    |uk w h d=>show(if _ then _ else _:SS).rows.length<=_;split;exact hm ..;exact hs
    |uC l=>exact hm ..
    |box=>show(rF _ _ _).rows.length<=_;unfold rF;split;exact hs;exact gA h2
   exact ae (bB key _) (cj (show s.rows.length+sQ sub+1+sQ r=s.rows.length+(sQ sub+sQ r+1)from Z.o 0x1111110113a91181a113981117 [] [_,_,_] rfl))
structure Ml(H0 H:MH)(fw:FW)(fa:Int->Addr)(wa oa da:Addr)(ps:List uI)(x:WS)(pd:List Pd):Prop where
 w:Wr H0 H wa oa da 4 x
 fo:x.fo=B7++vT pd (-1) 23
 la:x.last=vn pd (-1) 23
 ok:yt fw [] pd (x.es.map ar)
 fe:tj fa x.es
 pg:x.uP=(ps.length:Nat)
 pl:pd.length=ps.length
 by':wU x.fo
 ln:x.fo.length<=23+515*ps.length
 ta:x.sO=qJ sv 0 ps
 wi:x.wide=qJ sx 0 ps
 de:x.deep=qJ (sy fa) 0 ps
 dp:zY 0 pd=qJ (sy fa) 0 ps
 vs:pd.map D9=ps.map (CF fa)
 ks:∀k,k∈x.es.map ar↔∃p∈ps,k∈vh p.ts
theorem Mm:wU B7:=((((wU.nil.cons ⋯).cons ⋯).app Bl).app (wU.nil.cons ⋯)).app fun i hi=>by rw[show nI glue=[103,108,117,101,112,97,103,101]from rfl]at hi;simp only[aA,mn,or_false]at hi;rcases hi with e|e|e|e|e|e|e|e<;>subst e<;>decide
theorem Ml.zero(h:Wr H0 H wa oa da 4 ws0):Ml H0 H fw fa wa oa da [] ws0 []:=
 ⟨h,(aO _).symm,rfl,.nil,⟨fun J h=>(nomatch h),.nil,fun J h=>(nomatch h)⟩,rfl,rfl,Mm,av rfl,rfl,rfl,rfl,rfl,rfl,fun k=>⟨fun h=>(nomatch h),fun⟨_,h,_⟩=>(nomatch h)⟩⟩
theorem Mn(cs:List Int):∀k n,wU (vf cs k n):=by
 intro k;induction k with
 |zero=>exact fun J=>.nil
 |succ k EA=>exact fun n=>(q7 4 _).app (EA _)
theorem Pr{cs:List Int}(h:∀z∈cs,Sm z)(n:Nat):Sm (cs.getD n 0):=by
 refine cD▸?_;cases e:cs[n]? with
 |none=>exact sm0
 |some z=>exact h z (cv e)
theorem Ml.L8(h:Ml H0 H fw fa wa oa da ps x pd)(g:vp G fw fa p)
  (w:Wr H0 H' wa oa Pc 4 (x.L8 p.cs p.h p.dd p.w p.X p.Y n (Aa fa p x.es)))(ci:Ao n)(run:rB fw (pN n) (start (x.es.map ar)) ((Aa fa p x.es).ps n).rs)(fe:tj fa (Aa fa p x.es).es)(ln:pL n<=tq p.ts)(np:uE n):
  Ml H0 H' fw fa wa oa Pc (ps++[p]) (x.L8 p.cs p.h p.dd p.w p.X p.Y n (Aa fa p x.es)) (pd++[⟨p.cs,pN n,((Aa fa p x.es).ps n).rs⟩]):=by
 have st0:(Aa fa p x.es).rO=[]:=(xp ..).rO;have dp0:0<=(Aa fa p x.es).F.dp:=Uu _ _ _ _ _ _ (cz 0);have ao5:B7.length=23:=rfl;have hfo:x.fo.length=23+(vT pd (-1) 23).length:=by rw[h.fo,aa,ao5]
 have ep:wm p.cs x.last++bytes (pN n)++[140]=FI ⟨p.cs,pN n,((Aa fa p x.es).ps n).rs⟩ (vn pd (-1) 23):=by refine h.la▸?_;show 139::((vf p.cs 10 0++be 4 x.last++bytes (pN n))++[140])=139::_;rw[ax,ax]
 have bl:(wm p.cs x.last++bytes (pN n)++[140]).length<=515:=by
  have h1:(wm p.cs x.last).length=45:=by show(vf p.cs 10 0++be 4 x.last).length+1=45;rw[aa,DW,pM]
  rw[aa,aa,h1];have h2:(bytes (pN n)).length<=31*sQ p.ts:=ae ln (Eb _ g.z);have h3:=g.n;exact Z.o 0xf1211113f13959f124852302331138d223115 [] [_,_] rfl h2 h3
 refine⟨w,?_,?_,?_,fe,?_,?_,?_,?_,?_,?_,?_,?_,?_,?_⟩
 ·show x.fo++_=_;rw[ep,I3,<-ax,<-h.fo]
 ·show(x.fo.length:Int)=_;rw[FN,hfo]
 ·exact FO h.ok ⟨run,fun d k=>by refine(zL np (ci.c d k))▸?_;rfl,st0,Pr g.cs,by have:=Bp (fa:=fa) p.ts p.X (p.Y+p.h) 0 0 (Jh x.es);exact ae this (ae (aZ g.n _) (by show 0+15<=_;decide))⟩
 ·show x.uP+1=_;rw[h.pg,aa];rfl
 ·rw[aa,aa,h.pl];rfl
 ·exact h.by'.app ((((Mn _ _ _).app (q7 4 _)).cons ⋯|>.app (Cb run)).app (wU.nil.cons ⋯))
 ·show(x.fo++_).length<=_;rw[aa (as:=x.fo)];exact ae (dZ h.ln bl) (cj (by rw[aa];show _=23+515*(ps.length+1);rw[ip,aQ]))
 ·show max x.sO _=_;rw[vZ,h.ta];rfl
 ·show max x.wide _=_;rw[vZ,h.wi];rfl
 ·show max x.deep _=_;rw[vZ,h.de,(Ci (fa:=fa) p x.es).F];rfl
 ·rw[FP st0 dp0,vZ,h.dp];show max _ (Aa fa p x.es).F.dp=_;rw[(Ci (fa:=fa) p x.es).F];rfl
 ·rw[aG,aG,h.vs];show _++[V.tup [_,V.tup (Aa fa p x.es).rows]]=_;rw[(Ci (fa:=fa) p x.es).r];rfl
 ·intro k;show k∈(Aa fa p x.es).es.map ar↔_;rw[show k∈(Aa fa p x.es).es.map ar↔_ from I2 _ _ _ _ _ _ g.t];show k∈x.es.map ar\/_↔_;rw[h.ks];constructor
  ·rintro (⟨q,h1,h2⟩|h2)
   ·exact⟨q,eM _ h1,h2⟩
   ·exact⟨p,fB _ (.head _),h2⟩
  ·rintro ⟨q,h1,h2⟩;rcases aM.mp h1 with h1|h1
   ·exact .inl ⟨q,h1,h2⟩
   ·rw[aI.mp h1]at h2;exact .inr h2
section
theorem Cj:∀(ps:List uI) (m:Int),m<=M->(∀p∈ps,f p<=M)->qJ f m ps<=M:=by
 intro ps;induction ps with
 |nil=>exact fun J h J=>h
 |cons p r pS=>exact fun m h g=>pS _ (kK.mpr ⟨h,g p (.head _)⟩) fun q hq=>g q (.tail _ hq)
theorem Co:∀(ps:List uI) (m:Int),m<=qJ f m ps:=by
 intro ps;induction ps with
 |nil=>exact fun J=>cz _
 |cons p r pS=>exact fun m=>aT (fY _ _) (pS _)
theorem Mo:∀(ts:Tr) (X Y D x:Int) (s:SS),s.F.dp<=M->D+DV ts<=M->(uG fa ts X Y D x s).F.dp<=M:=by
 intro ts;induction ts with
 |nil=>exact fun J J J J J h J=>h
 |cons _ i sub r qW pS=>
  exact fun X Y D x s h g=>by
   have g1:D+1+(DV sub:Int)<=M:=by rw[dW,d9 1];exact(aT (dz (bq.mpr (jR _ _)) _) g)
   refine pS X Y D (x+i.w) _ ?_ (aT (dz (bq.mpr (gR _ _)) _) g);have hb:(rF D s (uG fa sub (X+x) (Y+i.sh) (D+1) 0 s.uo)).F.dp<=M:=by
    unfold rF;split
    ·exact h
    ·exact kK.mpr ⟨qW (X+x) (Y+i.sh) (D+1) 0 s.uo h g1,aT (dB (bU _)) g1⟩
   repeat first|clear fa|clear ts|clear X|clear Y|clear D|clear x|clear s|clear DV|clear sub|clear r|clear g1|clear h1|clear (aT (dz (bq.mpr (gR _ _)) _) g)|clear g
   induction i using It.casesOn with
   |uk w h' d=>show(if _ then _ else _:SS).F.dp<=M;split<;>exact h
   |box=>exact hb
   |_=>exact h
theorem bd4{a:Int}{n:Nat}(h:a<=100000)(k:n<=15):a+0+70000*(n+1)<=100000000:=Z.o 0x7111511113f13850a68153802001e5f5731138610711154038110 [_] [_] rfl h k
theorem bd5{a b c:Int}{n:Nat}(g:a<=b+c)(h:b<=100000)(l:c<=50)(k:n<=15):a+70000*(n+1)<=100000000:=Z.o 0x71115111111115f13852323a00a6815390a91804001e5f5731138610711154810 [_,_,_] [_] rfl g h l k
theorem bd7{h y:Int}(g:h<=70000)(k:y<=100000):h+y<=1073741823:=Z.o 0x11111130a68153900711153802fffffff3839810 [_,_] [] rfl g k
theorem bd6{h y:Int}(g:h<=50)(k:y<=100000):h+3+y<=1073741823:=Z.o 0x11111130a68153902323802fffffff38393138110 [_,_] [] rfl g k
theorem padM(n:Nat):4<=(4+(-(n:Int)).fmod 4).toNat/\(4+(-(n:Int)).fmod 4).toNat<=7:=by exact⟨(Int.le_toNat (fq ⋯ (bt (-(n:Int)) (b:=4) ⋯))).mpr (dB (bt (-(n:Int)) (b:=4) ⋯)),Z.tle (fq ⋯ (bt (-(n:Int)) (b:=4) ⋯)) (dz (kJ (b:=3) (bP (-(n:Int)) (b:=4) ⋯)) 4)⟩
variable{H0 H G:MH}{fw:FW}{fa:Int->Addr}{wa oa da:Addr}{ps:List uI}{x:WS}{pd:List Pd}
theorem Ml.file(h:Ml H0 H fw fa wa oa da ps x pd):x.file=B7++(vT pd (-1) 23++248::postR (rH x.es) (vn pd (-1) 23) x.sO x.wide x.deep (pd.length:Nat) x.fo.length (4+(-((x.fo++rW x).length:Int)).fmod 4).toNat):=by unfold WS.file postR FC;generalize (4+(-((x.fo++rW x).length:Int)).fmod 4).toNat=m;unfold rW;rw[h.pg,h.pl,<-h.la];generalize x.fo.length=n;rw[h.fo];simp only[ax,bT,cU]
theorem Ec(h:tj fa x.es):vz (rH x.es)/\(∀k,k∈rH x.es↔k∈x.es.map ar)/\(rH x.es).length=(x.es.map ar).length:=by have hp:(rH x.es).Perm (x.es.map ar):=(List.reverse_perm _).trans (rt _);exact⟨⟨hp.nodup_iff.mpr h.n,fun n hn=>by obtain⟨e,he,rfl⟩:=aY.mp (hp.mem_iff.mp hn);exact h.b e he⟩,fun k=>hp.mem_iff,hp.length_eq⟩
theorem tj.kn(h:tj fa es):vz (es.map ar):=⟨h.n,fun n hn=>by obtain⟨e,he,rfl⟩:=aY.mp hn;exact h.b e he⟩
theorem I4:units.length=12:=by unfold units;rw[aa,aa,pM,pM,pM]
theorem Mp(h:Ml H0 H fw fa wa oa da ps x pd)(hl:ps.length<=5):x.file.length<=pq:=by
 have h2:(rW x).length<=71:=by
  have e:(rW x).length=35+18*(rH x.es).length:=by unfold rW;simp only[aa,pM,yc,a8,bZ];refine I4▸?_;exact Z.o 0x1111110821243223111303141311303182124213213413413c1341311303111111111117 [] [_] rfl
  exact Z.o 0x11212114921243223187213952742385 [] [_,_] rfl (show(rH x.es).length<=2 by rw[(Ec h.fe).2.2];exact h.fe.kn.len) e
 have h3:=(padM (x.fo++rW x).length).2;unfold WS.file FC;generalize (4+(-((x.fo++rW x).length:Int)).fmod 4).toNat=m at h3 ⊢;rw[aa,aa,dJ];exact ae (m:=2598+71+7) (dZ (dZ (show x.fo.length<=2598 by have:=h.ln;exact Z.o 0x113023113930234712318551395262a3385 [] [_,_] rfl hl this) h2) h3) ⋯
theorem Pt(h:vp G fw fa p):sv p<=200000/\sx p<=200000/\sy fa p<=3:=by refine⟨by unfold sv;exact Z.o 0x11011111150a68153a031392232380304d0353a98110 [_,_,_] [] rfl h.bh.2 h.bd h.bY.2,by unfold sx;exact Z.o 0x11111130a6815390071115380204d03539810 [_,_] [] rfl h.bw.2 h.bX.2,Mo _ _ _ _ _ _ ⋯ (Z.o 0x11112313851313860310 [] [_] rfl h.lv)⟩
theorem Hf{x:Int}(h: -1000000<=x/\x<=1000000):qc x:=by unfold qc;exact Z.Hm h.1 h.2 rfl
theorem QM:∀l:List Int,z<=w->(∀x∈l,x<=w)->tL z l<=w
 |[],h,_=>h
 |x::r,h,g=>QM (z:=if z<x then x else z) r (by split;exact g x (.head _);exact h) fun y hy=>g y (.tail _ hy)
theorem Uv{p:uI}(h:vp G fw fa p):qc p.X/\qc p.Y/\tL p.h [p.dd,p.h+p.dd+p.Y,p.w+p.X]<=1073741823/\QC p.ts p.X (p.Y+p.h) 0:=by
 have h2:=h.bh;have h4:=h.bX;have h5:=h.bY;refine⟨Hf (⟨Z.ig h4.1 rfl,Z.il h4.2 rfl⟩),Hf (⟨Z.ig h5.1 rfl,Z.il h5.2 rfl⟩),QM _ (Z.il h2.2 rfl) fun x hx=>?_,Yo _ _ _ _ h.z (bd4 (Z.Hm h4.1 h4.2 rfl) h.n) (bd5 (bq.mpr (gC p.Y p.h)) (Z.Hm h5.1 h5.2 rfl) (Z.Hm h2.1 h2.2 rfl) h.n)⟩;rw[h.bd]at hx;simp only[aA,mn,or_false]at hx;rcases hx with e|e|e
 ·rw[e];decide
 ·rw[e];exact bd6 h2.2 h5.2
 ·rw[e];exact bd7 h.bw.2 h4.2
end
noncomputable def Uw:Fn:=⟨6,[0,1,2],[],
 (.cons (.Ew [5,4,3] (.tup (.cons (.call 96 (.cons (.v 0) (.cons (.c (.int 8)) .nil))) (.cons (.call 96 (.cons (.v 0) (.cons (.c (.int 8)) .nil))) (.cons (.call 96 (.cons (.v 0) (.cons (.c (.int 8)) .nil))) .nil)))))
 (.cons (.pT (.cmp .lt (.v 3) (.c (.int 3)))
  (.cons (.ret (.new 197 (.cons (.sub (.v 1) (.bin .add (.c (.int 1)) (.bin .mod (.v 4) (.c (.int 2))))) (.cons (.bin .add (.c (.int 65)) (.bin .mul (.c (.int 135)) (.bin .mod (.v 5) (.c (.int 2))))) .nil)))) .nil) .nil)
 (.cons (.pT (.cmp .eq (.v 3) (.c (.int 3)))
  (.cons (.ret (.new 260 (.cons (.sub (.c (.tup [(.int 0),(.int 5),(.int (-7)),(.int 40),(.int 300),(.int 5),(.int 70000),(.int 40)])) (.v 4)) (.cons (.c (.int 1)) .nil)))) .nil) .nil)
 (.cons (.pT (.cmp .eq (.v 3) (.c (.int 4)))
  (.cons (.ret (.new 239 (.cons (.sub (.c (.tup [(.int 0),(.int 5),(.int (-7)),(.int 40),(.int 300),(.int 5),(.int 70000),(.int 40)])) (.v 4)) (.cons (.c (.int 9)) (.cons (.bin .sub (.v 5) (.c (.int 2))) .nil))))) .nil) .nil)
 (.cons (.pT (.cmp .eq (.v 3) (.c (.int 5)))
  (.cons (.ret (.new 281 (.cons (.blt .bytes (.cons (.Al (.lst (.cons (.v 4) (.cons (.v 5) .nil))) (.c .none) (.bin .mod (.v 5) (.c (.int 3)))) .nil)) .nil))) .nil) .nil)
 (.cons (.ret (.ite (.cmp .lt (.v 2) (.c (.int 2))) (.call 98 (.cons (.v 0) (.cons (.v 1) (.cons (.bin .add (.v 2) (.c (.int 1))) .nil)))) (.new 260 (.cons (.c (.int 12)) (.cons (.c (.int 1)) .nil))))) .nil))))))⟩
noncomputable def Ux:Fn:=⟨6,[0,1,2],[],
 (.cons (.asg (.v 3) (.call 96 (.cons (.v 0) (.cons (.c (.int 3)) .nil))))
 (.cons (.asg (.v 4) (.comp 5 [(2,0),(3,2),(4,1)] (.v 1) (.blt .range (.cons (.bin .add (.c (.int 1)) (.sub (.tup (.cons (.v 3) (.cons (.bin .mod (.v 3) (.c (.int 2))) (.cons (.c (.int 0)) .nil)))) (.v 2))) .nil)) (.c (.bool true)) (.call 97 (.cons (.v 2) (.cons (.v 4) (.cons (.v 3) .nil))))))
 (.cons (.asg (.v 5) (.new 218 (.cons (.c (.int 2)) (.cons (.sub (.c (.tup [(.int 0),(.int 5),(.int (-7)),(.int 40),(.int 300),(.int 5),(.int 70000),(.int 40)])) (.call 96 (.cons (.v 0) (.cons (.c (.int 8)) .nil)))) (.cons (.call 96 (.cons (.v 0) (.cons (.c (.int 50)) .nil))) (.cons (.c (.int 3)) (.cons (.v 4) .nil)))))))
 (.cons (.asg (.attr (.v 5) 53) (.ite (.cmp .gt (.v 2) (.c (.int 0))) (.sub (.c (.tup [(.int 0),(.int 5),(.int (-7)),(.int 40),(.int 300),(.int 5),(.int 70000),(.int 40)])) (.call 96 (.cons (.v 0) (.cons (.c (.int 8)) .nil)))) (.c (.int 0))))
 (.cons (.ret (.v 5)) .nil)))))⟩
noncomputable def Mq:Fn:=⟨7,[0,1],[],
 (.cons (.asg (.v 2) (.new 622 (.cons (.c (.int 4)) .nil)))
 (.cons (.fr (.tup (.cons (.v 3) (.cons (.v 4) (.cons (.v 5) (.cons (.v 6) .nil))))) (.v 0)
  (.cons (.expr (.pD (.v 2) 54 (.cons (.v 3) (.cons (.v 4) (.cons (.v 5) (.cons (.v 6) .nil)))))) .nil))
 (.cons (.ret (.call 94 (.cons (.pD (.v 2) 13 .nil) (.cons (.v 1) .nil)))) .nil)))⟩
noncomputable def Mr:Fn:=⟨1,[0],[],
 (.cons (.ret (.lst (.cons (.attr (.v 0) 67) (.cons (.attr (.v 0) 71) (.cons (.attr (.v 0) 10) .nil))))) .nil)⟩
noncomputable def Ab:Fn:=⟨17,[0],[],
 (.cons (.asg (.v 0) (.Al (.v 0) (.c .none) (.c (.int 5))))
 (.cons (.asg (.tup (.cons (.v 1) (.cons (.v 2) (.cons (.v 3) .nil)))) (.tup (.cons (.call 95 (.cons (.v 0) (.cons (.c (.int 0)) .nil))) (.cons (.uH [1,2] (.cons (.call 72 (.cons (.c (.int 1)) (.cons (.lst (.cons (.tup (.cons (.c (.int 65)) (.cons (.c (.int 12)) (.cons (.c (.int 5)) (.cons (.c (.int 0)) .nil))))) (.cons (.tup (.cons (.c (.int 200)) (.cons (.c (.int 40)) (.cons (.c (.int 5)) (.cons (.c (.int 0)) .nil))))) .nil))) .nil))) (.cons (.call 72 (.cons (.c (.int 2)) (.cons (.lst (.cons (.tup (.cons (.c (.int 65)) (.cons (.c (.int 40)) (.cons (.c (.int 5)) (.cons (.c (.int 0)) .nil))))) (.cons (.tup (.cons (.c (.int 200)) (.cons (.c (.int 7)) (.cons (.c (.int 5)) (.cons (.c (.int 0)) .nil))))) .nil))) .nil))) .nil))) (.cons (.lst .nil) .nil)))))
 (.cons (.fr (.v 4) (.blt .range (.cons (.bin .add (.c (.int 2)) (.call 96 (.cons (.v 1) (.cons (.c (.int 2)) .nil)))) .nil))
  (.cons (.asg (.v 5) (.tup (.cons (.bin .sub (.call 96 (.cons (.v 1) (.cons (.c (.int 9)) .nil))) (.c (.int 4))) (.cons (.v 4) .nil))))
  (.cons (.Ew [7,6] (.tup (.cons (.call 96 (.cons (.v 1) (.cons (.c (.int 60)) .nil))) (.cons (.call 96 (.cons (.v 1) (.cons (.c (.int 60)) .nil))) .nil))))
  (.cons (.expr (.pD (.v 3) 1 (.cons (.tup (.cons (.call 98 (.cons (.call 95 (.cons (.v 0) (.cons (.bin .add (.c (.int 1)) (.v 4)) .nil))) (.cons (.v 2) (.cons (.c (.int 0)) .nil)))) (.cons (.v 5) (.cons (.v 6) (.cons (.v 7) .nil))))) .nil))) .nil))))
 (.cons (.asg (.v 8) (.call 99 (.cons (.v 3) (.cons (.v 2) .nil))))
 (.cons (.asg (.v 9) (.comp 3 [(2,2)] (.v 1) (.v 3) (.c (.bool true)) (.call 99 (.cons (.lst (.cons (.v 1) .nil)) (.cons (.v 2) .nil)))))
 (.cons (.pT (.bor (.cmp .ne (.attr (.v 8) 42) (.comp 2 [] (.v 1) (.v 9) (.c (.bool true)) (.sub (.attr (.v 1) 42) (.c (.int 0))))) (.cmp .ne (.comp 2 [] (.v 1) (.v 9) (.c (.bool true)) (.blt .len (.cons (.attr (.v 1) 42) .nil))) (.bin .mul (.lst (.cons (.c (.int 1)) .nil)) (.blt .len (.cons (.v 3) .nil)))))
  (.cons (.ret (.c (.bool false))) .nil) .nil)
 (.cons (.pT (.cmp .ne (.call 100 (.cons (.v 8) .nil)) (.comp 3 [(2,9)] (.v 1) (.blt .range (.cons (.c (.int 3)) .nil)) (.c (.bool true)) (.blt .max (.cons (.comp 3 [(2,1)] (.v 1) (.v 2) (.c (.bool true)) (.sub (.call 100 (.cons (.v 1) .nil)) (.v 2))) .nil))))
  (.cons (.ret (.c (.bool false))) .nil) .nil)
 (.cons (.pT (.bor (.cmp .ne (.attr (.call 99 (.cons (.rev (.v 3)) (.cons (.v 2) .nil))) 42) (.rev (.attr (.v 8) 42))) (.cmp .ne (.blt .sorted (.cons (.attr (.v 8) 18) .nil)) (.sset 3 [] (.v 1) (.v 9) (.v 2) (.attr (.v 1) 18) (.v 2))))
  (.cons (.ret (.c (.bool false))) .nil) .nil)
 (.cons (.asg (.tup (.cons (.v 10) (.cons (.v 11) (.cons (.v 12) .nil)))) (.tup (.cons (.call 96 (.cons (.v 1) (.cons (.blt .len (.cons (.v 3) .nil)) .nil))) (.cons (.sub (.c (.tup [(.int 0),(.int 5),(.int (-7)),(.int 40),(.int 300),(.int 5),(.int 70000),(.int 40)])) (.call 96 (.cons (.v 1) (.cons (.c (.int 8)) .nil)))) (.cons (.sub (.c (.tup [(.int 0),(.int 5),(.int (-7)),(.int 40),(.int 300),(.int 5),(.int 70000),(.int 40)])) (.call 96 (.cons (.v 1) (.cons (.c (.int 8)) .nil)))) .nil)))))
 (.cons (.asg (.tup (.cons (.v 13) (.cons (.v 5) (.cons (.v 6) (.cons (.v 7) .nil))))) (.sub (.v 3) (.v 10)))
 (.cons (.asg (.v 14) (.sub (.attr (.call 99 (.cons (.lst (.cons (.tup (.cons (.v 13) (.cons (.v 5) (.cons (.bin .add (.v 6) (.v 11)) (.cons (.bin .add (.v 7) (.v 12)) .nil))))) .nil)) (.cons (.v 2) .nil))) 42) (.c (.int 0))))
 (.cons (.asg (.tup (.cons (.v 15) (.cons (.v 16) .nil))) (.sub (.attr (.v 8) 42) (.v 10)))
 (.cons (.ret (.cmp .eq (.v 14) (.tup (.cons (.v 15) (.cons (.blt .tuple (.cons (.comp 4 [(2,11),(3,12)] (.v 1) (.v 16) (.c (.bool true)) (.bin .add (.tup (.cons (.sub (.v 1) (.c (.int 0))) (.cons (.bin .add (.sub (.v 1) (.c (.int 1))) (.v 2)) (.cons (.bin .add (.sub (.v 1) (.c (.int 2))) (.v 3)) .nil)))) (.Al (.v 1) (.c (.int 3)) (.c .none)))) .nil)) .nil))))) .nil)))))))))))))⟩
def sA:List Fn:=[Uw,Ux,Mq,Mr,Ab]
def vA(p:uI):V:=.tup [.ref p.a,.tup (iL p.cs),.int p.X,.int p.Y]
section
variable{H0 H:MH}{fw:FW}{fa:Int->Addr}{wa oa da pa fd:Addr}{fes:List (Int×V)}
theorem Yp(h:k<=3)(hd:11<=d):8+k<=d:=ae (aZ h 8) hd
theorem I5(hd:11<=d)(hp:H0 pa=some (.list all))(hF:sH H0 fw fa):∀(rest done:List uI) (x:WS) (pd:List Pd) (H:MH) (da:Addr) (l3 l4 l5 l6:V),Ml H0 H fw fa wa oa da done x pd->(∀p∈rest,vp H0 fw fa p)->done.length+rest.length<=5->
  (∀H' Pc x' pd' l3 l4 l5 l6,Ml H0 H' fw fa wa oa Pc (done++rest) x' pd'->K .next [.ref pa,l1,.ref wa,l3,l4,l5,l6] H')->
  rY (lp Th (pz Th (pB sA) d) (.tup (.cons (.v 3) (.cons (.v 4) (.cons (.v 5) (.cons (.v 6) .nil))))) (qk (qY Mq.body 1)) E) (fun H'=>H' pa=some (.list all)) (rest.map vA) [.ref pa,l1,.ref wa,l3,l4,l5,l6] H K:=by
 intro rest;induction rest with
 |nil=>exact fun done x pd H da l3 l4 l5 l6 h J J k=>⟨h.w.old _ _ hp,by have:=k H da x pd l3 l4 l5 l6 (by rw[aO];exact h);exact this⟩
 |cons p r pS=>
  exact fun done x pd H da l3 l4 l5 l6 h g hl k=>by
   have gp:=g p (.head _);have Pu:=Uv gp;refine pQ (h.w.old _ _ hp) fun R hR=>?_;have hw:=h.w.w;unfold wO at hw;simp![lp,Mq,qY,qk];refine Pb (fw:=fw) (fa:=fa) (Yp gp.lv hd) h.w hF gp.o gp.l gp.s (aT (bq.mpr gp.lv) ⋯) Pu.2.2.2 h.fe Pu.1 Pu.2.1 Pu.2.2.1 gp.cs gp.cl ?_ fun H' Pc n w ci run fe ln np=>?_
   ·exact ae (m:=2598+(50+465)) (dZ (show x.fo.length<=2598 by have:=h.ln;exact Z.o 0x1130231139302347123185513a915262a3385 [] [_,_,_] rfl hl this) (aZ (ae (Eb _ gp.z) (k8 31 gp.n)) 50)) ⋯
   refine hR _ _ (pS (done++[p]) _ _ H' Pc _ _ _ _ (h.L8 gp w ci run fe ln np) (fun q hq=>g q (.tail _ hq)) (by rw[aa,aQ,bk [p].length];exact hl) fun H2 da2 x2 pd2 l3 l4 l5 l6 h2=>k H2 da2 x2 pd2 l3 l4 l5 l6 (by rw[ax]at h2;exact h2))
structure Pw(H:MH)(fa:Int->Addr)(ps:List uI)(da:Addr)(pl ka:Addr)(kn:List Int):Prop where
 o:H da=some (uR (nI glue) pl ka (qJ sv 0 ps) (qJ sx 0 ps) (qJ (sy fa) 0 ps))
 p:H pl=some (.list (ps.map (CF fa)))
 k:∃ep,H ka=some (.dict (wz kn) ep)
 nk:vz kn
 ks:∀k,k∈kn↔∃p∈ps,k∈vh p.ts
theorem Pw.more(h:Pw H fa ps da pl ka kn)(k:∀b o,H b=some o->H' b=some o):Pw H' fa ps da pl ka kn:=
 ⟨k _ _ h.o,k _ _ h.p,let ⟨ep,e⟩:=h.k;⟨ep,k _ _ e⟩,h.nk,h.ks⟩
theorem uq(hd:12<=d)(hp:H pa=some (.list (ps.map vA)))(hF:rX H fw fa fd fes)(CC:∀n x w,fw n x=some w->n=1\/n=2)(g:∀p∈ps,vp H fw fa p)(hl:ps.length<=5)
  (K:∀H' da pl ka kn,(∀b o,H b=some o->H' b=some o)->Pw H' fa ps da pl ka kn->Q (.ref da) H'):pz Th (pB sA) d 99 [.ref pa,.ref fd] H Q E:=by
 refine call_of (fn:=Mq) (qB hd rfl) rfl rfl ?_;simp![Mq];intro wa nwa;refine DY (pV hd rfl) ⋯ nwa fun H1 oa da w1=>?_;lia;have w0:Ml H H1 fw fa wa oa da [] ws0 []:=.zero w1;refine .lst (w1.old _ _ hp) (by rw[ah];exact ae hl ⋯) ?_;refine I5 (pV hd rfl) hp hF.f ps [] _ _ H1 da _ _ _ _ w0 g (by rw[bZ,cJ];exact hl) fun H2 da2 x pd l3 l4 l5 l6 h=>?_;rw[cU]at h;have hw:=h.w.w;unfold wO at hw;lia;have h1:x.fo.length<=2598:=by have:=h.ln;exact Z.o 0x113023113930234712318551395262a3385 [] [_,_] rfl hl this
 refine Pf (pV hd rfl) h.w (hF.f.more h.w.old) h.fe h.by' (ae (bB h1 100) ⋯) fun H3 o3=>?_;have b0:=fun p hp=>Pt (g p hp);have ta:=Co ps 0 (f:=sv);have wi:=Co ps 0 (f:=sx);have de:=Co ps 0 (f:=sy fa);have ta':=Cj ps 0 (f:=sv) (M:=200000) ⋯ fun p hp=>(b0 p hp).1;have wi':=Cj ps 0 (f:=sx) (M:=200000) ⋯ fun p hp=>(b0 p hp).2.1;have de':=Cj ps 0 (f:=sy fa) (M:=3) ⋯ fun p hp=>(b0 p hp).2.2;rw[<-h.ta]at ta ta';rw[<-h.wi]at wi wi';rw[<-h.de]at de de';have sm:∀z:Int,0<=z->z<=200000->Sm z:=fun z h1 h2=>by unfold Sm;exact Z.Hm h1 h2 rfl
 have xQ:=Ec (fa:=fa) (x:=x) h.fe;have o13:∀b o,H b=some o->H3 b=some o:=fun b o e=>o3 _ _ (h.w.old _ _ e);refine Ce (pV hd rfl) (Mp h hl) (hF.more o13) CC h.ok (sm _ ta ta') (sm _ wi wi') ⟨de,c7 de' ⋯⟩ (h.pl▸(bM hl ⋯)) (h.dp▸h.de▸(cz _)) xQ.1 (fun z hz=>(xQ.2.1 z).mp hz) xQ.2.2 (padM _).1 h.file (by rw[<-h.fo]) fun H4 Pc pl ka o4 d1 d2 d3=>?_;rw[h.dp,h.ta,h.wi]at d1;rw[h.vs]at d2;exact K H4 Pc pl ka _ (fun b o e=>o4 _ _ (o13 _ _ e)) ⟨d1,d2,d3,h.fe.kn,h.ks⟩
theorem Bq(hd:1<=d)(h:Pw H fa ps da pl ka kn)(K:∀r,H r=none->Q (.ref r) (H.upd r (.list (iL [qJ sv 0 ps,qJ sx 0 ps,qJ (sy fa) 0 ps])))):pz Th (pB sA) d 100 [.ref da] H Q E:=by have ho:=h.o;unfold uR at ho;refine call_of (fn:=Mr) hd rfl rfl ?_;simp![Mr];intro r nr;exact K r nr
end
noncomputable def Tr.app:Tr->Tr->Tr
 | .nil,u=>u
 | .cons a i sub r,u=>.cons a i sub (r.app u)
theorem Px(u:Tr):∀t:Tr,AN (t.app u)=AN t++AN u:=by
 intro t;induction t with
 |nil=>exact rfl
 |cons a i sub r _ pS=>exact congrArg (V.ref a::·) (pS)
theorem Ms(u:Tr):∀t:Tr,sQ (t.app u)=sQ t+sQ u:=by
 intro t;induction t with
 |nil=>exact(cJ _).symm
 |cons a i sub r _ pS=>exact by show sQ sub+sQ (r.app u)+1=sQ sub+sQ r+1+sQ u;refine pS▸?_;exact Z.o 0x1111110a11398111113a918117 [] [_,_,_] rfl
structure Gd(H:MH)(fw:FW)(fa:Int->Addr)(ts:Tr)(cn lv:Nat):Prop where
 s:Lies H fw fa ts
 t:Mj ts
 z:Vj ts
 n:sQ ts<=cn
 l:DV ts<=lv
theorem Gd.more(h:Gd H fw fa ts cn lv)(k:∀b o,H b=some o->H' b=some o):Gd H' fw fa ts cn lv:=⟨h.s.more k,h.t,h.z,h.n,h.l⟩
theorem Gd.app(g:Gd H fw fa u cu lv):∀{t:Tr} {cn:Nat},Gd H fw fa t cn lv->Gd H fw fa (t.app u) (cn+cu) lv:=by
 intro t;induction t with
 |nil=>exact @fun cn h=>⟨g.s,g.t,g.z,ae g.n (bI _ _),g.l⟩
 |cons a i sub r _ v8=>exact @fun cn h=>by have hl:=mH.mp (show max (DV sub+1) (DV r)<=lv from h.l);have ih:=v8 (cn:=sQ r) ⟨h.s.2.2.2,h.t.2.2,h.z.2.2,aF _,hl.2⟩;exact⟨⟨h.s.1,h.s.2.1,h.s.2.2.1,ih.s⟩,⟨h.t.1,h.t.2.1,ih.t⟩,⟨h.z.1,h.z.2.1,ih.z⟩,by rw[Ms];exact dZ h.n g.n,mH.mpr ⟨hl.1,ih.l⟩⟩
structure Vk(H H':MH)(b:Addr)(t k m:Int):Prop where
 o:∀x o,minus H b x=some o->minus H' b x=some o
 b:∃c' t',H' b=some (xx c' t' m)/\0<=t'/\t'<=t+k
noncomputable def Ed(H H':MH):MH:=fun x=>match H x with|none=>H' x|some _=>none
theorem Ac(h:H x=none)(e:H' x=o):Ed H H' x=o:=by unfold Ed;refine h.symm▸?_;exact e
theorem Ad(e:Ed H H' x=some o):H x=none/\H' x=some o:=by
 unfold Ed at e;cases h:H x with
 |none=>have e:=h▸e;exact⟨rfl,e⟩
 |some p=>have e:=h▸e;exact Z.nS e
theorem rT(k:∀x o,minus H b x=some o->minus H' b x=some o)(hb:H' b=some p)(e:H' x=none):H x=none:=by
 cases h:H x with
 |none=>rfl
 |some o=>rw[(p9 (k _ _ (qi (fun z=>by rw[z,hb]at e;exact nomatch e) h))).2]at e;exact nomatch e
theorem Ee(k:∀x,G x=none->H x=none):∀x o,Ed G H' x=some o->Ed H H' x=some o:=fun x o e=>have z:=Ad e;Ac (k _ z.1) z.2
theorem Ae(hb:H b=some p)(k:∀x o,minus H' b x=some o->minus VJ b x=some o):∀x o,Ed H H' x=some o->Ed H VJ x=some o:=fun x o e=>have z:=Ad e;Ac z.1 (p9 (k _ _ (qi (fun y=>by rw[y,hb]at z;exact nomatch z.1) z.2))).2
structure Ctx(H:MH)(b fd:Addr)(fw:FW)(fa:Int->Addr)(fes:List (Int×V)):Prop where
 f:rX (minus H b) fw fa fd fes
 w:∀n c,n=1\/n=2->c=65\/c=200->∃w,fw n c=some w/\-70000<=w/\w<=70000
theorem Ctx.more(h:Ctx H b fd fw fa fes)(k:∀x o,minus H b x=some o->minus H' b x=some o):Ctx H' b fd fw fa fes:=⟨h.f.more k,h.w⟩
section
variable(b fd:Addr)(m:Int)(fw:FW)(fa:Int->Addr)(fes:List (Int×V))
def Eg(dp:Int)(dd tk cn lv:Nat):Prop:=∀{d:Nat} {H:MH} {c t:Int} {Q:QV} {E:QE},dd<=d->H b=some (xx c t m)->0<=t->t+tk<=1000000->Ctx H b fd fw fa fes->
 (∀H' a i sub,Vk H H' b t tk m->Gd (Ed H H') fw fa (.cons a i sub .nil) cn lv->Q (.ref a) H')->pz Th (pB sA) d 97 [.ref b,.ref fd,.int dp] H Q E
def I6(dp:Int)(dd tk cn lv:Nat):Prop:=∀{d:Nat} {H:MH} {c t:Int} {Q:QV} {E:QE},dd<=d->H b=some (xx c t m)->0<=t->t+tk<=1000000->Ctx H b fd fw fa fes->
 (∀H' a il w h sh ts,Vk H H' b t tk m->Ed H H' a=some (va 2 w h 3 il sh)->Ed H H' il=some (.list (AN ts))->Gd (Ed H H') fw fa ts cn lv->(-70000<=w/\w<=70000)->(0<=h/\h<=50)->(-70000<=sh/\sh<=70000)->Q (.ref a) H')->pz Th (pB sA) d 98 [.ref b,.ref fd,.int dp] H Q E
end
section
variable{b fd:Addr}{m:Int}{fw:FW}{fa:Int->Addr}{fes:List (Int×V)}
theorem Vk.refl(h:H b=some (xx c t m))(ht:0<=t)(hk:0<=k):Vk H H b t k m:=⟨fun J J e=>e,c,t,h,ht,dB hk⟩
theorem yg:minus (H.upd b o) b=minus H b:=by
 funext x;unfold minus;split
 ·rfl
 ·exact if_neg (by assumption)
theorem v7(h:H b=some p)(na:H a=none):(∀x o,minus H b x=some o->minus (H.upd a q) b x=some o)/\minus (H.upd a q) b a=some q/\(H.upd a q) b=some p:=by exact⟨fun x o e=>have z:=p9 e;qi z.1 (pj (px na z.2) z.2),qi (show a≠b from fun z=>by rw[z,h]at na;exact nomatch na) up_eq,pj (show a≠b from fun z=>by rw[z,h]at na;exact nomatch na).symm h⟩
theorem uS(h:0<=v/\v<8)(k:∀z:Int,-70000<=z/\z<=70000->Q (.int z) H):vr H Q (.tup [.int 0,.int 5,.int (-7),.int 40,.int 300,.int 5,.int 70000,.int 40]) (.int v):=by
 have hv:v=0\/v=1\/v=2\/v=3\/v=4\/v=5\/v=6\/v=7:=Z.bi (k:=8) (p:=fun v=>v=0\/v=1\/v=2\/v=3\/v=4\/v=5\/v=6\/v=7) h.1 h.2 rfl;repeat first|clear H|clear Q|clear v|clear h|clear p
 rcases hv with e|e|e|e|e|e|e|e<;>subst e<;>exact .tup ⋯ rfl rfl (k _ ⋯)
theorem Py(h:0<=v/\v<3)(hd:0<=dp/\dp<=2)(k:∀z:Int,0<=z->z+dp<=2->Q (.int z) H):vr H Q (.tup [.int v,.int (v.fmod 2),.int 0]) (.int dp):=by
 have hv:dp=0\/dp=1\/dp=2:=Z.bi (k:=3) (p:=fun dp=>dp=0\/dp=1\/dp=2) hd.1 (dQ hd.2) rfl;repeat first|clear H|clear Q|clear dp|clear hd|clear p
 rcases hv with e|e|e<;>subst e
 ·exact .tup ⋯ rfl rfl (k _ h.1 (Z.o 0x1111231381121303810 [_] [] rfl h.2))
 ·exact .tup ⋯ rfl rfl (k _ (bt _ ⋯) (by have:=bP v (b:=2) ⋯;exact this))
 ·exact .tup ⋯ rfl rfl (k _ (cz _) ⋯)
theorem Gd.leaf(h:H a=some (Qz fa i))(p:O9 H fw .nil i)(s:Mi i .nil)(z:Ym i):Gd H fw fa (.cons a i .nil .nil) (cn+1) (lv+1):=
 ⟨⟨h,p,trivial,trivial⟩,⟨s,trivial,trivial⟩,⟨z,trivial,trivial⟩,bI _ _,bI _ _⟩
theorem Cp(h0:0<=dp/\dp<=2)(h4:4<=dd)(hB:dp<2->I6 b fd m fw fa fes (dp+1) dd tk cn lv)(hm:0<=m/\m<1000003):Eg b fd m fw fa fes dp (dd+1) (tk+3) (cn+1) (lv+1):=by
 intro d H c t Q E hd h ht FQ cx K;have d5:5<=d:=ae (dC h4) hd;refine call_of (fn:=Uw) (qB d5 rfl) rfl rfl ?_;simp![Uw];refine qa (pV d5 rfl) h ⟨ht,Z.o 0x111120424f5331381681010424f5380 [_] [_] rfl FQ⟩ hm ⋯ fun way c1 t1 w0 w1 p1 q1=>?_;lia;refine qa (pV d5 rfl) up_eq ⟨p1,Z.o 0x111111311391800424f5331381691020424f5380 [_,_] [_] rfl FQ q1⟩ hm ⋯ fun one c2 t2 o0 o1 p2 q2=>?_;rw[pF];lia;refine qa (pV d5 rfl) up_eq ⟨p2,Z.o 0x111111114113a18011391a00424f5331381691030424f5380 [_,_,_] [_] rfl FQ q1 q2⟩ hm ⋯ fun two c3 t3 u0 u1 p3 q3=>?_;rw[pF];refine(?_);have s0:Vk H (H.upd b (xx c3 t3 m)) b t 3 m:=⟨fun x o e=>by refine yg.symm▸?_;exact e,c3,t3,up_eq,p3,Z.o 0x111111114113b180113a1b011391a033139180 [_,_,_,_] [] rfl q1 q2 q3⟩;have hb:(H.upd b (xx c3 t3 m)) b=some (xx c3 t3 m):=up_eq;have cx:=cx.more s0.o;generalize H.upd b (xx c3 t3 m)=G at s0 hb cx;have Yq:∀G',(∀x o,minus G b x=some o->minus G' b x=some o)->G' b=some (xx c3 t3 m)->∀a i,G' a=none->(∀H',O9 H' fw .nil i)->Mi i .nil->Ym i->Q (.ref a) (G'.upd a (Qz fa i)):=fun G' g1 g2 a i na p s z=>by obtain⟨z1,z2,z3⟩:=v7 (q:=Qz fa i) g2 na;exact K _ a i .nil ⟨fun x o e=>z1 _ _ (g1 _ _ (s0.o _ _ e)),c3,t3,z3,p3,Z.o 0x111111114113b180113a1b011391a033138169180 [_,_,_,_] [_] rfl q1 q2 q3⟩ (.leaf (Ac (rT s0.o hb (rT g1 g2 na)) up_eq) (p _) s z)
 have key:=Yq G (fun J J e=>e) hb;lia;refine vK (fun zw=>?_) fun zw=>?_
 ·lia;refine .mod ⋯ ?_;lia;have f2:one.fmod 2=0\/one.fmod 2=1:=by have a1:=bt one (b:=2) ⋯;have a2:=bP one (b:=2) ⋯;exact Z.bi (k:=2) (p:=fun x=>x=0\/x=1) a1 a2 rfl
  have rL:1+one.fmod 2=1\/1+one.fmod 2=2:=f2.imp (congrArg (1+·)) (congrArg (1+·));have c2:65+135*two.fmod 2=65\/65+135*two.fmod 2=200:=by have a1:=bt two (b:=2) ⋯;have a2:=bP two (b:=2) ⋯;exact Z.bi (k:=2) (p:=fun x=>65+135*x=65\/65+135*x=200) a1 a2 rfl
  obtain⟨ep,Vg⟩:=cx.f.d;refine .uH (p9 Vg).2 (cx.f.g _ rL) ?_;lia;refine .mod ⋯ ?_;refine .mul ⋯ (Z.wl (Z.o 0x11782287824142311423018000000000000000010000000f3651 [_] [] rfl (Z.hl c2 rfl)) (Z.o 0x1178228c23878241423101000000000000000010000000f3681 [_] [] rfl (Z.hh c2 rfl))) ?_;lia;intro a na;refine Ip (pV d5 rfl) (⟨Z.o 0x1111287824142311423018782414231030 [_] [] rfl (Z.hl c2 rfl),Z.o 0x111128c23878241423101ff2387824142310 [_] [] rfl (Z.hh c2 rfl)⟩) ?_;lia;obtain⟨w,e1,e2,e3⟩:=cx.w _ _ rL c2;exact key a (.chr _ _ w) na (fun J=>⟨rL,⟨Z.o 0x1111287824142311423018782414231030 [_] [] rfl (Z.hl c2 rfl),Z.o 0x111128c23878241423101ff2387824142310 [_] [] rfl (Z.hh c2 rfl)⟩,e1⟩) rfl ⟨e2,e3⟩
 lia;refine vK (fun z3=>?_) fun z3=>?_
 ·lia;refine uS ⟨o0,o1⟩ fun z hz=>?_;lia;intro a na;refine A5 (pV d5 rfl) (Z.Hm hz.1 hz.2 rfl) ?_;lia;exact key a (.yJ z) na (fun J=>trivial) rfl hz
 lia;refine vK (fun z4=>?_) fun z4=>?_
 ·lia;refine uS ⟨o0,o1⟩ fun z hz=>?_;lia;intro a na;refine Iq (pV d5 rfl) (Z.Hm hz.1 hz.2 rfl) ⋯ (Z.we (Z.o 0x111128030121382fffffff38350 [_] [] rfl u0) (Z.o 0x11112813811fffffff383213820 [_] [] rfl u1)) ?_;lia;exact key a (.uk z 9 (two - 2)) na (fun J=>trivial) rfl ⟨hz,⟨Z.o 0x111128030121382071115350 [_] [] rfl u0,Z.o 0x111128138110711153213820 [_] [] rfl u1⟩,⟨Z.o 0x1111280301213829131071115350 [_] [] rfl u0,Z.o 0x1111281381107111532138291310 [_] [] rfl u1⟩⟩
 lia;refine vK (fun z5=>?_) fun z5=>?_
 ·lia;intro l1 nl1;obtain⟨y1,_,y3⟩:=v7 (q:=.list [V.int one,V.int two]) hb nl1;refine .mod ⋯ (.lst up_eq .none .int (av rfl) ?_);intro l2 nl2;generalize hG:G.upd l1 (.list [V.int one,V.int two])=G1 at nl2 y1 y3 ⊢;generalize hs:rR [V.int one,V.int two] Option.none (some (two.fmod 3))=sl;obtain⟨x1,_,x3⟩:=v7 (q:=.list sl) y3 nl2;have fin:∀is:List Int,sl=iL is->is.length<=2->(∀i∈is,0<=i/\i<8)->qt (G1.upd l2 (.list sl)) (fun v H1=>Ey Th (pz Th (pB sA) (d - 1)) 281 [v] H1 (fun v H1=>Q v H1) E) .bytes [.ref l2]:=fun is e hl hi=>by refine .Q8 up_eq (e▸(xq _)) (ae hl ⋯) (fun i h=>⟨(hi i h).1,Int.lt_trans (hi i h).2 ⋯⟩) ?_;lia;intro a na;have Yr:∀i∈is,0<=i/\i<=255:=fun i h=>⟨(hi i h).1,aT (b7 (hi i h).2) ⋯⟩;refine Ir (pV d5 rfl) (ae hl ⋯) Yr ?_;lia;exact Yq _ (fun J J e=>x1 _ _ (y1 _ _ e)) x3 a (.uC is) na (fun J=>⟨bM hl ⋯,Yr⟩) rfl (ae hl ⋯)
  have f3:two.fmod 3=0\/two.fmod 3=1\/two.fmod 3=2:=by have a1:=bt two (b:=3) ⋯;have a2:=bP two (b:=3) ⋯;exact Z.bi (k:=3) (p:=fun x=>x=0\/x=1\/x=2) a1 a2 rfl
  rcases f3 with e|e|e<;>rw[e]at hs
  ·exact fin [] hs.symm ⋯ fun i h=>nomatch h
  ·exact fin [one] hs.symm (bA 1) fun i h=>by rw[aI.mp h];exact⟨o0,o1⟩
  ·exact fin [one,two] hs.symm (aF 2) fun i h=>by
    rcases aA.mp h with e|h
    ·rw[e];exact⟨o0,o1⟩
    ·rw[aI.mp h];exact⟨u0,u1⟩
 lia;refine vK (fun z2=>?_) fun z2=>?_
 ·lia;have p3':t3+tk<=1000000:=Z.o 0x11111111115113b180113a1b011391a00424f5331381691040424f5386810 [_,_,_,_] [_] rfl FQ q1 q2 q3;refine hB z2 (dM hd) hb p3 p3' cx fun H' a il w h sh ts st ho yL g bw bh bs=>?_;lia;obtain⟨c4,t4,e1,e2,e3⟩:=st.b;have nl:=Ee (H:=H) (G:=G) (H':=H') fun x e=>rT s0.o hb e;refine K H' a (.box il w h 3 sh) ts ⟨fun x o e=>st.o _ _ (s0.o _ _ e),c4,t4,e1,e2,Z.o 0x1111111111586c180113b1c0113a1b011391a043138169180 [_,_,_,_,_] [_] rfl q1 q2 q3 e3⟩ ⟨⟨nl _ _ ho,nl _ _ yL,g.s.more nl,trivial⟩,⟨trivial,g.t,trivial⟩,⟨⟨bw,bs⟩,g.z,trivial⟩,dC g.n,mH.mpr ⟨dC g.l,bW _⟩⟩
 ·lia;intro a na;refine A5 (pV d5 rfl) ⋯ ?_;lia;exact key a (.yJ 12) na (fun J=>trivial) rfl ⟨by decide,by decide⟩
end
section
variable{b fd:Addr}{m:Int}{fw:FW}{fa:Int->Addr}{fes:List (Int×V)}
theorem Mt(t:Tr)(a:Addr)(i:It)(sub:Tr):AN (t.app (.cons a i sub .nil))=AN t++[.ref a]:=Px _ _
theorem FT(hI:Eg b fd m fw fa fes dp dd tk cn lv)(hd:dd<=d)(hb0:H0 b=some p0):∀(xs:List V) (ts:Tr) (H:MH) (c t:Int) (u1:V) (Uy:Nat) (Q:List V->MH->Prop),H b=some (xx c t m)->0<=t->t+((xs.length*tk:Nat):Int)<=1000000->Ctx H b fd fw fa fes->(∀x,H x=none->H0 x=none)->Gd (Ed H0 H) fw fa ts Uy lv->
  (∀H' Ke,Vk H H' b t ((xs.length*tk:Nat):Int) m->Gd (Ed H0 H') fw fa Ke (Uy+xs.length*cn) lv->Q (AN Ke) H')->
  sF (qx Th (pz Th (pB sA) d) (.v 1) (.c (.bool true)) (.call 97 (.cons (.v 2) (.cons (.v 4) (.cons (.v 3) .nil))))) (fun J=>True) xs (AN ts) [u0,u1,.ref b,.int dp,.ref fd] H Q:=by
 intro xs;induction xs with
 |nil=>exact fun ts H c t u1 Uy Q h ht J J J g K=>⟨trivial,K H ts (.refl h ht (bU _)) ⟨g.s,g.t,g.z,ae g.n (aC _ _),g.l⟩⟩
 |cons x r pS=>
  exact fun ts H c t u1 Uy Q h ht FQ cx hn g K=>by
   have e2:Uy+(x::r).length*cn=Uy+cn+r.length*cn:=by rw[a8,lJ];exact Z.o 0x11111109a811a91817 [] [_,_,_] rfl
   have FQ:=(show(x::r).length*tk=r.length*tk+tk from lJ _ _)▸FQ;refine⟨trivial,?_⟩;simp![qx];refine hI hd h ht (Z.o 0x111120424f53891681010424f5386810 [_] [_,_] rfl FQ) cx fun H1 a i sub st g1=>?_;obtain⟨c1,t1,Mu⟩:=st.b;lia;have:=pS (ts.app (.cons a i sub .nil)) H1 c1 t1 x (Uy+cn) Q Mu.1 Mu.2.1 (Z.o 0x11111139691800424f53981691020424f5386810 [_,_] [_,_] rfl FQ Mu.2.2) (cx.more st.o) (fun x e=>hn _ (rT st.o Mu.1 e)) ((g1.more (Ee hn)).app (g.more (Ae hb0 st.o))) fun H' Ke st' g'=>K H' Ke ⟨fun x o e=>st'.o _ _ (st.o _ _ e),let ⟨c2,t2,z7⟩:=st'.b;⟨c2,t2,z7.1,z7.2.1,by rw[(show(x::r).length*tk=r.length*tk+tk from lJ _ _)];exact Z.o 0x111111386a1809691a0298169180 [_,_,_] [_,_] rfl Mu.2.2 z7.2.2⟩⟩ (e2▸g');rw[Mt]at this;exact this
theorem Af{dp:Int}{dd tk cn lv k:Nat}(h0:0<=dp/\dp<=2)(hk:dp+k=3)(h4:4<=dd)(hI:Eg b fd m fw fa fes dp dd tk cn lv)(hm:0<=m/\m<1000003):I6 b fd m fw fa fes dp (dd+1) (k*tk+4) (k*cn) lv:=by
 intro d H c t Q E hd h ht FQ cx K;have d5:5<=d:=ae (dC h4) hd;refine call_of (fn:=Ux) (qB d5 rfl) rfl rfl ?_;simp![Ux];refine qa (pV d5 rfl) h ⟨ht,Z.o 0x111120424f5341381681010424f5380 [_] [_] rfl FQ⟩ hm ⋯ fun many c1 t1 w0 w1 p1 q1=>?_;lia;refine .mod ⋯ ?_;refine Py ⟨w0,w1⟩ h0 fun z z0 z1=>?_;lia;refine .CL (Z.wl (Z.o 0x111128030181131000000000000000100000000f3651 [_] [] rfl z0) (Z.o 0x1111113213981090302000000000000000100000000f36811311 [_,_] [] rfl h0.1 z1)) (.Ak (.inl rfl) ⋯ (Z.wl (Z.o 0x111128030181131000000000000000100000000f3651 [_] [] rfl z0) (Z.o 0x1111113213981090302000000000000000100000000f36811311 [_,_] [] rfl h0.1 z1)) ?_);have hn:(sW 0 (1+z) 1).length<=k:=by rw[zU];exact Z.tle (fq ⋯ z0) (Z.o 0x11110114213981031386912286811310 [_,_] [_] rfl hk z1)
 generalize sW 0 (1+z) 1=xs at hn;have cx1:Ctx (H.upd b (xx c1 t1 m)) b fd fw fa fes:=cx.more fun x o e=>by rw[yg];exact e
 have hle:xs.length*tk<=k*tk:=kL tk hn;refine⟨ae hn (ae (m:=3) (Z.o 0x1111114313868128030231385 [_] [_] rfl h0.1 hk) ⋯),FT hI (dM hd) (H0:=H) h xs .nil _ c1 t1 _ 0 _ up_eq p1 (Z.o 0x11111111498511391800424f5341391691030424f5386810 [_,_] [_,_] rfl FQ q1 hle) cx1 (fun x e=>(pA e).2) ⟨trivial,trivial,trivial,aF _,bW _⟩ fun H1 ts st g=>?_⟩;obtain⟨c2,t2,y1,y2,y3⟩:=st.b;intro il Ys;have so:∀x o,minus H b x=some o->minus H1 b x=some o:=fun x o e=>st.o _ _ (by rw[yg];exact e);obtain⟨x1,x2,x3⟩:=v7 (q:=.list (AN ts)) y1 Ys;generalize hG:H1.upd il (.list (AN ts))=G at x1 x2 x3 ⊢;lia;refine qa (pV d5 rfl) x3 ⟨y2,Z.o 0x1111111111596a18089511391a00424f5341381691040424f5380 [_,_,_] [_,_] rfl FQ q1 hle y3⟩ hm ⋯ fun v3 c3 t3 a0 a1 p3 q3=>?_;refine uS ⟨a0,a1⟩ fun w bw=>?_;lia;refine qa (pV d5 rfl) up_eq ⟨p3,Z.o 0x1111111111116113b18096a1b089511391a00424f5341381691050424f5380 [_,_,_,_] [_,_] rfl FQ q1 hle y3 q3⟩ hm ⋯ fun hh c4 t4 b0 b1 p4 q4=>?_;rw[pF];lia;intro a na;have z1:=pA na;refine LA (pV d5 rfl) (.inl rfl) (Z.Hm bw.1 bw.2 rfl) (Z.ab8 b0 b1 rfl) ⋯ ?_;lia;have fin:∀(sh c5 t5:Int) (G2:MH),-70000<=sh/\sh<=70000->0<=t5->t5<=t4+1->G2 b=some (xx c5 t5 m)->G2 a=some (va 2 w hh 3 il sh)->(∀x o,minus G b x=some o->G2 x=some o)->Q (.ref a) G2:=fun sh c5 t5 G2 hs h5 h6 k1 k2 k3=>by have k4:∀x o,minus G b x=some o->minus G2 b x=some o:=fun x o e=>qi (p9 e).1 (k3 _ _ e);refine K _ a il w hh sh ts ⟨fun x o e=>k4 _ _ (x1 _ _ (so _ _ e)),c5,t5,k1,h5,Z.o 0x111111111111117113d180113c1d0113b1c096a1b089511391a064138169180 [_,_,_,_,_,_] [_,_] rfl q1 hle y3 q3 q4 h6⟩ (Ac (rT so y1 (rT x1 x3 z1.2)) k2) (Ac (rT so y1 Ys) (p9 (k4 _ _ x2)).2) ⟨(g.s.more (Ae h x1)).more (Ae h k4),g.t,g.z,ae g.n (by rw[cJ];exact kL cn hn),g.l⟩ bw ⟨b0,b7 b1⟩ hs
 have nab:b≠a:=z1.1.symm;refine vK (fun z2=>?_) fun z2=>?_
 ·lia;refine qa (pV d5 rfl) (pj nab up_eq) ⟨p4,Z.o 0x111111111111117113c180113b1c096a1b089511391a00424f5341381691060424f5380 [_,_,_,_,_] [_,_] rfl FQ q1 hle y3 q3 q4⟩ hm ⋯ fun v5 c5 t5 a2 a3 p5 q5=>?_;refine uS ⟨a2,a3⟩ fun sh bs=>?_;have na':=z1.1;lia;refine fin sh c5 t5 _ bs p5 q5 (pj nab up_eq) up_eq fun x o e=>?_;obtain⟨e1,e2⟩:=p9 e;exact pj (px z1.2 e2) (pj e1 (pj (px z1.2 e2) (pj e1 e2)))
 ·lia;exact fin 0 c4 t4 _ ⋯ p4 (aT (cz _) (dB ⋯)) (pj nab up_eq) up_eq fun x o e=>have z:=p9 e;pj (px z1.2 z.2) (pj z.1 z.2)
theorem Cq(hm:0<=m/\m<1000003):I6 b fd m fw fa fes 0 10 85 15 3:=by have b2:I6 b fd m fw fa fes 2 6 7 1 1:=Af (k:=1) ⋯ ⋯ ⋯ (Cp (dd:=4) (tk:=0) (cn:=0) (lv:=0) ⋯ ⋯ (fun h=>absurd h ⋯) hm) hm;have i1:Eg b fd m fw fa fes 1 7 10 2 2:=Cp ⋯ ⋯ (fun J=>b2) hm;have b1:I6 b fd m fw fa fes 1 8 24 4 2:=Af (k:=2) ⋯ ⋯ ⋯ i1 hm;have i0:Eg b fd m fw fa fes 0 9 27 5 3:=Cp ⋯ ⋯ (fun J=>b1) hm;have b0:I6 b fd m fw fa fes 0 10 85 15 3:=Af (k:=3) (tk:=27) (cn:=5) ⋯ ⋯ ⋯ i0 hm;exact @b0
end
inductive wR:V->Prop where
 |chr {h v n c}:wR (DM h v n c)
 |uk {h v a b}:wR (DN h v a b)
 |uC {h v l}:wR (BX h v l)
theorem Mv:∀(ts:Tr) (X Y D x:Int) (s:SS),(∀r∈s.rows,wR r)->∀r∈(uG fa ts X Y D x s).rows,wR r:=by
 intro ts;induction ts with
 |nil=>exact fun J J J J J h=>h
 |cons _ i sub r qW pS=>
  exact fun X Y D x s h=>by
   refine pS X Y D (x+i.w) _ ?_;have hm:∀(h v fn:Int) (es:Es) (q:V),wR q->∀r∈(s.to h v fn es (s.rows++[q])).rows,wR r:=fun J J J J q hq r hr=>by
    rcases aM.mp hr with z|z
    ·exact h r z
    ·rw[aI.mp z];exact hq
   induction i using It.casesOn with
   |chr n c w=>exact hm _ _ _ _ _ .chr
   |yJ w=>exact h
   |uk w h' d=>
    simp only[B1];split
    ·exact hm _ _ _ _ _ .uk
    ·exact h
   |uC l=>exact hm _ _ _ _ _ .uC
   |box il w h2 d2 sh=>
    show∀r∈(rF _ _ _).rows,wR r;unfold rF;split
    ·exact h
    ·exact qW (X+x) (Y+sh) (D+1) 0 s.uo h
theorem Ag:∀{l:List V},(∀x∈l,R x x)->yj R l l:=by
 intro l;induction l with
 |nil=>exact fun J=>.nil
 |cons x r ih=>exact fun h=>.cons (h x (.head _)) (ih fun y hy=>h y (.tail _ hy))
theorem same_ints:∀l:List Int,yj (sV H (n+1)) (iL l) (iL l):=by
 intro l;induction l with
 |nil=>exact .nil
 |cons x r pS=>exact .cons (show rk H _ _ _ from .int) (pS)
theorem Mw(h:wR r):sV H (n+2) r r:=by
 have i:∀a:Int,sV H (n+1) (.int a) (.int a):=fun J=>(show rk H _ _ _ from .int);induction h using wR.casesOn with
 |chr=>exact(show rk H _ _ _ from .tup (.cons (i _) (.cons (i _) (.cons (i _) (.cons (i _) (.cons (i _) .nil))))))
 |uk=>exact(show rk H _ _ _ from .tup (.cons (i _) (.cons (i _) (.cons (i _) (.cons (i _) (.cons (i _) .nil))))))
 |uC=>exact(show rk H _ _ _ from .tup (.cons (i _) (.cons (i _) (.cons (i _) (.cons (show rk H _ _ _ from .bytes) .nil)))))
theorem Eh(fa:Int->Addr)(p:uI):∀r∈(Aa fa p []).rows,wR r:=Mv _ _ _ _ _ _ fun J h=>nomatch h
theorem Hg(p:uI):sV H (n+4) (CF fa p) (CF fa p):=
 (show rk H _ _ _ from .tup (.cons (show rk H _ _ _ from .tup (same_ints _)) (.cons (show rk H _ _ _ from .tup (Ag fun r hr=>Mw (Eh fa p r hr))) .nil)))
theorem Ei{ps:List uI}(e1:l=ps.map (CF fa))(e2:m=ps.map (CF fa))(ha:H a=some (.list l))(hb:H b=some (.list m)):sV H 6 (.ref a) (.ref b):=by subst e1 e2;exact(show rk H _ _ _ from .ref ha hb (Ag fun x hx=>by obtain⟨p,_,rfl⟩:=aY.mp hx;exact Hg (n:=1) p))
theorem Cr(e:l=m)(ha:H a=some (.list (iL l)))(hb:H b=some (.list (iL m))):sV H 6 (.ref a) (.ref b):=by subst e;exact(show rk H _ _ _ from .ref ha hb (same_ints _))
def one(f:uI->Int)(p:uI):Int:=qJ f 0 [p]
theorem Mx(f:uI->Int)(p:uI):one f p=max 0 (f p):=rfl
theorem My:∀(ps:List uI) (m:Int),0<=m->tL m (ps.map (one f))=qJ f m ps:=by
 intro ps;induction ps with
 |nil=>exact fun J J=>rfl
 |cons p r pS=>exact fun m h=>by show tL (if m<one f p then one f p else m) (r.map (one f))=qJ f (max m (f p)) r;refine(show(if m<one f p then one f p else m)=max m (f p) by rw[Mx];split;exact Int.le_antisymm (kK.mpr ⟨aT h (fY _ _),gS _ _⟩) (kK.mpr ⟨b7 ‹_›,gS _ _⟩);exact(fU (aT (gS 0 _) (bJ.mp ‹_›))).symm).symm▸?_;exact pS _ (aT h (fY _ _))
theorem Mz(p:uI)(r:List uI):tL (one f p) (r.map (one f))=qJ f 0 (p::r):=by rw[My r _ (by rw[Mx];exact fY _ _)];rfl
theorem FU(h1:l.Nodup)(h2:m.Nodup)(h:∀k,k∈l↔k∈m):qF l=qF m:=by
 have hp:l.Perm m:=by refine(fP h1 h2).mpr h
 exact PySem.W.lks_uniq ((rt l).trans (hp.trans (rt m).symm)) (vX l) (vX m)
theorem Ah(h:l.Nodup):(wC x l).Nodup:=by
 unfold wC;split
 ·exact h
 ·rename_i n;exact cM.mpr ⟨h,dX _ _,fun a ha b hb e=>n (by rw[aI]at hb;exact hb▸e▸ha)⟩
theorem MA:k∈wC x l↔k∈l\/k=x:=by
 unfold wC;split
 ·rename_i h;exact⟨.inl,fun z=>z.elim id fun e=>e▸h⟩
 ·rw[aM,aI]
theorem Pz:(Aa fa {p with X:=p.X+x,Y:=p.Y+y} []).rows=(Aa fa p []).rows.map (MZ x y):=by have:=(Pq (fa:=fa) (a:=x) (b:=y) p.ts p.X (p.Y+p.h) 0 0 (Jh []) (Jh []) ⟨rfl,rfl,rfl⟩).r;refine this▸?_;show(uG fa p.ts (p.X+x) (p.Y+y+p.h) 0 0 (Jh [])).rows=_;rw[ff]
structure Lw(G H:MH)(b pl s1 zl:Addr)(zo:O)(fd:Addr)(m:Int)(ys:List Int)(fw:FW)(fa:Int->Addr)(fes:List (Int×V))(ps:List uI)(t:Int):Prop where
 old:∀x o,G x=some o->H x=some o
 gb:G b=none
 gp:G pl=none
 bx:∃c t',H b=some (xx c t' m)/\0<=t'/\t'<=t
 pp:H pl=some (.list (ps.map vA))
 ok:∀p∈ps,vp G fw fa p
 f:rX G fw fa fd fes
 s:G s1=some (.list (iL ys))
 z:G zl=some zo
 bd:∀p∈ps,(0<=p.X/\p.X<60)/\0<=p.Y/\p.Y<60
section
variable{b pl s1 zl fd:Addr}{zo:O}{m:Int}{ys:List Int}{fw:FW}{fa:Int->Addr}{fes:List (Int×V)}
theorem FV(hd:11<=d)(hm:0<=m/\m<1000003)(hy:ys.length<=5)(hw:∀n c,n=1\/n=2->c=65\/c=200->∃w,fw n c=some w/\-70000<=w/\w<=70000):∀(n k:Nat) (ps:List uI) (G H:MH) (t:Int) (l4 l5 l6 l7:V),k+n<=10->ps.length+n<=10->t+3*n<=1000->Lw G H b pl s1 zl zo fd m ys fw fa fes ps t->
  (∀G' H' QJ l4 l5 l6 l7,Lw G' H' b pl s1 zl zo fd m ys fw fa fes QJ (t+3*n)->QJ.length=ps.length+n->K .next [.ref s1,.ref b,.ref fd,.ref pl,l4,l5,l6,l7,.rG,.rG,.rG,.rG,.rG,.rG,.rG,.rG,.rG] H')->
  rY (lp Th (pz Th (pB sA) d) (.v 4) (qk (qY Ab.body 2)) E) (fun J=>True) (sW k (k+(n:Nat)) 1) [.ref s1,.ref b,.ref fd,.ref pl,l4,l5,l6,l7,.rG,.rG,.rG,.rG,.rG,.rG,.rG,.rG,.rG] H K:=by
 intro n;induction n with
 |zero=>exact fun k ps G H t l4 l5 l6 l7 J J J h K=>by rw[show sW k (k+((0:Nat):Int)) 1=[]from vQ _];exact⟨trivial,K G H ps l4 l5 l6 l7 (by refine(show t+3*((0:Nat):Int)=t from cG _).symm▸?_;exact h) rfl⟩
 |succ n Bw=>
  exact fun k ps G H t l4 l5 l6 l7 hk hp ht h K=>by
   rw[xn];obtain⟨c0,t0,hb,t00,t0t⟩:=h.bx;refine pQ trivial fun R hR=>?_;simp![lp,Ab,qY,qk];refine qa (qB hd rfl) hb ⟨t00,Z.o 0x11111139808e33311381631491020424f5380 [_,_] [_] rfl ht t0t⟩ hm ⋯ fun v1 c1 t1 a0 a1 p1 q1=>?_;lia;refine qa (qB hd rfl) up_eq ⟨p1,Z.o 0x111111114113a1809a08e33311381631491030424f5380 [_,_,_] [_] rfl ht t0t q1⟩ hm ⋯ fun v2 c2 t2 b0 b1 p2 q2=>?_;rw[pF];lia;refine qa (qB hd rfl) up_eq ⟨p2,Z.o 0x11111111115113b180113a1b09a08e33311381631491040424f5380 [_,_,_,_] [_] rfl ht t0t q1 q2⟩ hm ⋯ fun v3 c3 t3 d0 d1 p3 q3=>?_;rw[pF];lia;refine(?_);have Yt:pl≠b:=rV h.pp hb (fun z=>by induction ps using aH<;>cases z);have pp1:(H.upd b (xx c3 t3 m)) pl=some (.list (ps.map vA)):=pj Yt h.pp;have bb1:(H.upd b (xx c3 t3 m)) b=some (xx c3 t3 m):=up_eq;have Yu:∀x o,G x=some o->(H.upd b (xx c3 t3 m)) x=some o:=fun x o e=>pj (fun z=>by rw[z,h.gb]at e;exact Z.nS e) (h.old _ _ e);generalize H.upd b (xx c3 t3 m)=H1 at pp1 bb1 Yu ⊢;lia;rw[show(1:Int)+(k:Int)=((1+k:Nat):Int)from Z.o 0x11111108113168611312 [] [_] rfl];refine z9 (qB hd rfl) (Yu _ _ h.s) (ae hy ⋯) (Z.o 0x11112a131139181514623811315 [] [_,_] rfl hk) fun c' m2 a m20 m21 na H2 o2 ha=>?_;lia;have oo2:∀x o,G x=some o->minus H2 a x=some o:=fun x o e=>qi (px na (Yu _ _ e)) (o2 _ _ (Yu _ _ e));refine Cq (fw:=fw) (fa:=fa) (fes:=fes) ⟨m20,m21⟩ (qB hd rfl) ha (cz 0) ⋯ ⟨h.f.more oo2,hw⟩ fun H3 ab il w hh sh ts st Ko yL g bw bh bs=>?_;have Uz:∀x o,H1 x=some o->H3 x=some o:=fun x o e=>(p9 (st.o _ _ (qi (px na e) (o2 _ _ e)))).2;have IZ:=Uz _ _ pp1;have hb3:=Uz _ _ bb1;lia;refine⟨_,IZ,qS.app (by rw[ah];exact ae (m:=10) (Z.off _ hp) ⋯) ?_⟩;have n2:∀x,Ed H2 H3 x≠none->x≠b/\x≠pl:=fun x e=>by have key:∀y o,H1 y=some o->x≠y:=fun y o e1 z=>e (by unfold Ed;rw[z,o2 _ _ e1]);exact⟨key _ _ bb1,key _ _ pp1⟩
   have oN:∀x o,Ed H2 H3 x=some o->minus (minus (H3.upd pl (.list (ps.map vA++[.tup [.ref ab,.tup [.int (v1 - 4),.int k],.int v2,.int v3]]))) b) pl x=some o:=fun x o e=>by have z:=n2 x (e▸nofun);exact qi z.2 (qi z.1 (pj z.2 (Ad e).2))
   have oG:∀x o,G x=some o->minus (minus (H3.upd pl (.list (ps.map vA++[.tup [.ref ab,.tup [.int (v1 - 4),.int k],.int v2,.int v3]]))) b) pl x=some o:=fun x o e=>by
    have z1:x≠b:=fun z=>by rw[z,h.gb]at e;exact Z.nS e
    have z2:x≠pl:=fun z=>by rw[z,h.gp]at e;exact Z.nS e
    exact qi z2 (qi z1 (pj z2 (Uz _ _ (Yu _ _ e))))
   have e3:t+3*((n+1:Nat):Int)=t+3+3*(n:Int):=Z.o 0x111111086314313811113816314812 [_] [_] rfl;have h':Lw (minus (minus (H3.upd pl (.list (ps.map vA++[.tup [.ref ab,.tup [.int (v1 - 4),.int k],.int v2,.int v3]]))) b) pl) (H3.upd pl (.list (ps.map vA++[.tup [.ref ab,.tup [.int (v1 - 4),.int k],.int v2,.int v3]]))) b pl s1 zl zo fd m ys fw fa fes (ps++[⟨ab,il,w,hh,3,sh,ts,[v1 - 4,k],v2,v3⟩]) (t+3):=by
    refine⟨fun x o e=>(p9 (p9 e).2).2,qi Yt.symm tZ,tZ,⟨c3,t3,pj Yt.symm hb3,p3,Z.o 0x11111111115113c180113b1c0113a1b09a043139180 [_,_,_,_,_] [] rfl t0t q1 q2 q3⟩,by refine aG▸?_;exact up_eq,fun p hp=>?_,h.f.more oG,oG _ _ h.s,oG _ _ h.z,fun p hp=>(aM.mp hp).elim (h.bd p) fun z=>(aI.mp z)▸⟨⟨b0,b1⟩,d0,d1⟩⟩;rcases aM.mp hp with hp|hp
    ·exact(h.ok p hp).more oG
    ·refine(aI.mp hp)▸?_;have bl:∀z:Int,0<=z->z<60->-100000<=z/\z<=100000:=fun z h1 h2=>⟨(Z.ig h1 rfl),(Z.ill h2 rfl)⟩;have sm:∀z:Int,-10<=z->z<=10->Sm z:=fun z h1 h2=>by unfold Sm;exact Z.Hm h1 h2 rfl
     refine⟨oN _ _ Ko,oN _ _ yL,g.s.more oN,g.t,g.z,g.n,g.l,bw,bh,rfl,bl _ b0 b1,bl _ d0 d1,fun z hz=>?_,av rfl⟩;rcases aA.mp hz with e|hz
     ·rw[e];exact sm _ (Z.o 0x111128030141382a1350 [_] [] rfl a0) (Z.o 0x11112913811a13413820 [_] [] rfl a1)
     ·rw[aI.mp hz];exact sm _ Z.cn (Z.o 0x11112a13113918151a13860 [] [_,_] rfl hk)
   rw[e3]at K ht;have:=Bw (k+1) _ _ _ (t+3) (.int k) (.tup [.int (v1 - 4),.int k]) (.int v2) (.int v3) (Z.rc hk) (by rw[aa,aQ,bk _ n];exact hp) ht h' fun G' H' QJ l4 l5 l6 l7 z1 z2=>K G' H' QJ l4 l5 l6 l7 z1 (by rw[z2,aa,aQ,bk _ n];rfl);exact hR _ _ this
end
theorem Cs:uU acc (some x)++l=acc++(x::l):=ax ..
structure Dv where
 da:Addr
 pl:Addr
 ka:Addr
 kn:List Int
inductive ug(H:MH)(fa:Int->Addr):List uI->List Dv->Prop where
 |nil:ug H fa [] []
 |cons {p x r xs} (h:Pw H fa [p] x.da x.pl x.ka x.kn) (t:ug H fa r xs):ug H fa (p::r) (x::xs)
def CG(xs:List Dv):List V:=xs.map fun x=>.ref x.da
section
variable{H H0 H':MH}{fa:Int->Addr}{fw:FW}{fd pa al:Addr}{fes:List (Int×V)}{ps:List uI}{xs:List Dv}
theorem ug.more(h:ug H fa ps xs)(k:∀b o,H b=some o->H' b=some o):ug H' fa ps xs:=by
 induction h with
 |nil=>exact .nil
 |cons h _ ih=>exact .cons (h.more k) ih
theorem ug.snoc(h:ug H fa ps xs)(g:Pw H fa [p] x.da x.pl x.ka x.kn):ug H fa (ps++[p]) (xs++[x]):=by
 induction h with
 |nil=>exact .cons g .nil
 |cons h _ ih=>exact .cons h ih
theorem ug.len(h:ug H fa ps xs):xs.length=ps.length:=by
 induction h with
 |nil=>rfl
 |cons _ _ ih=>exact congrArg Nat.succ ih
theorem FX(hd:12<=d)(hp:H0 pa=some (.list all))(hF:rX H0 fw fa fd fes)(CC:∀n x w,fw n x=some w->n=1\/n=2):∀(rest done:List uI) (H:MH) (xs:List Dv) (u1:V) (Q:List V->MH->Prop),(∀b o,H0 b=some o->H b=some o)->(∀p∈rest,vp H0 fw fa p)->ug H fa done xs->
  (∀H' xs',(∀b o,H b=some o->H' b=some o)->ug H' fa (done++rest) xs'->Q (CG xs') H')->
  sF (qx Th (pz Th (pB sA) d) (.v 1) (.c (.bool true)) (.call 99 (.cons (.lst (.cons (.v 1) .nil)) (.cons (.v 2) .nil)))) (fun H'=>H' pa=some (.list all)) (rest.map vA) (CG xs) [u0,u1,.ref fd] H Q:=by
 intro rest;induction rest with
 |nil=>exact fun done H xs u1 Q h0 J h K=>⟨h0 _ _ hp,K H xs (fun J J e=>e) (by rw[aO];exact h)⟩
 |cons p r pS=>exact fun done H xs u1 Q h0 g h K=>by refine⟨h0 _ _ hp,?_⟩;simp![qx];intro l nl;have o1:∀b o,H b=some o->(H.upd l (.list [vA p])) b=some o:=fun b o e=>pj (px nl e) e;refine uq (ps:=[p]) hd up_eq (hF.more fun b o e=>o1 _ _ (h0 _ _ e)) CC (fun q hq=>by refine(aI.mp hq).symm▸?_;exact(g p (.head _)).more fun b o e=>o1 _ _ (h0 _ _ e)) (av rfl) fun H2 da pl ka kn o2 dv=>?_;have Yv:∀b o,H b=some o->H2 b=some o:=fun b o e=>o2 _ _ (o1 _ _ e);lia;have:=pS (done++[p]) H2 (xs++[⟨da,pl,ka,kn⟩]) (vA p) Q (fun b o e=>Yv _ _ (h0 _ _ e)) (fun q hq=>g q (.tail _ hq)) ((h.more Yv).snoc dv) fun H' xs' o3 z=>K H' xs' (fun b o e=>o3 _ _ (Yv _ _ e)) (by rw[ax]at z;exact z);unfold CG at this;rw[aG]at this;exact this
theorem Ej(ha:H al=some (.list vs)):∀{ps:List uI} {xs:List Dv} (acc:List V) (u1:V) (Q:List V->MH->Prop),ug H fa ps xs->Q (acc++ps.map (CF fa)) H->
  sF (qx Th (pz Th (pB sA) d) (.v 1) (.c (.bool true)) (.sub (.attr (.v 1) 42) (.c (.int 0)))) (fun H'=>H' al=some (.list vs)) (CG xs) acc [u0,u1] H Q:=by
 intro ps xs acc u1 Q h;induction h generalizing acc u1 Q with
 |nil=>exact fun K=>⟨ha,by have:=K;rwa[jB,aO]at this⟩
 |cons h t ih=>intro K;refine⟨ha,?_⟩;have ho:=h.o;unfold uR at ho;simp![qx];refine .lst h.p ⋯ rfl rfl ?_;lia;exact ih _ _ Q (by rw[Cs];exact K)
theorem I7(ha:H al=some (.list vs)):∀{ps:List uI} {xs:List Dv} (acc:List V) (u1:V) (Q:List V->MH->Prop),ug H fa ps xs->Q (acc++iL (aK ps.length 1)) H->
  sF (qx Th (pz Th (pB sA) d) (.v 1) (.c (.bool true)) (.blt .len (.cons (.attr (.v 1) 42) .nil))) (fun H'=>H' al=some (.list vs)) (CG xs) acc [u0,u1] H Q:=by
 intro ps xs acc u1 Q h;induction h generalizing acc u1 Q with
 |nil=>exact fun K=>⟨ha,by have:=K;rwa[show iL (aK ([]:List uI).length 1)=[]from rfl,aO]at this⟩
 |cons h t ih=>intro K;refine⟨ha,?_⟩;have ho:=h.o;unfold uR at ho;simp![qx];refine .ud h.p (av rfl) ?_;exact ih _ _ Q (by rw[Cs];exact K)
theorem I8(hd:1<=d)(hk:k.natAbs<2^60)(e1:idx 3 k=some j)(e2:∀p,[V.int (one sv p),.int (one sx p),.int (one (sy fa) p)][j]? =some (.int (one f p)))(ha:H0 al=some (.list vs)):∀{ps:List uI} {xs:List Dv} (H:MH) (acc:List V) (u1:V) (Q:List V->MH->Prop),(∀b o,H0 b=some o->H b=some o)->ug H fa ps xs->(∀H',(∀b o,H b=some o->H' b=some o)->Q (acc++iL (ps.map (one f))) H')->
  sF (qx Th (pz Th (pB sA) d) (.v 1) (.c (.bool true)) (.sub (.call 100 (.cons (.v 1) .nil)) (.v 2))) (fun H'=>H' al=some (.list vs)) (CG xs) acc [u0,u1,.int k] H Q:=by
 intro ps;induction ps with
 |nil=>intro xs H acc u1 Q h0 h K;cases h;exact⟨h0 _ _ ha,by have:=K H fun J J e=>e;rwa[show iL (gP (one f) [])=[]from rfl,aO]at this⟩
 |cons p r ih=>
  intro xs H acc u1 Q h0 h K;cases h with
  |cons h t=>
  refine⟨h0 _ _ ha,?_⟩;simp![qx];refine Bq hd h fun l nl=>?_;have o1:∀b o,H b=some o->(H.upd l (.list (iL [one sv p,one sx p,one (sy fa) p]))) b=some o:=fun b o e=>pj (px nl e) e;refine .lst up_eq hk e1 (e2 p) ?_;exact ih _ _ _ Q (fun b o e=>o1 _ _ (h0 _ _ e)) (t.more o1) fun H' o2=>by rw[Cs];exact K H' fun b o e=>o2 _ _ (o1 _ _ e)
end
noncomputable def Ct:List Int->List Int->List Int
 |acc,[]=>acc
 |acc,k::r=>Ct (wC k acc) r
noncomputable def Ai:List Int->List Dv->List Int
 |acc,[]=>acc
 |acc,x::r=>Ai (Ct acc x.kn) r
theorem Cu:∀(l acc:List Int),acc.Nodup->(Ct acc l).Nodup/\∀k,k∈Ct acc l↔k∈acc\/k∈l:=by
 intro l;induction l with
 |nil=>exact fun acc h=>⟨h,fun k=>⟨.inl,fun z=>z.elim id fun y=>nomatch y⟩⟩
 |cons x r pS=>exact fun acc h=>by refine⟨(pS (wC x acc) (Ah h)).1,fun k=>?_⟩;show k∈Ct (wC x acc) r↔_;rw[(pS (wC x acc) (Ah h)).2,MA,aA,or_assoc]
theorem Cv:∀(xs:List Dv) (acc:List Int),acc.Nodup->(Ai acc xs).Nodup/\∀k,k∈Ai acc xs↔k∈acc\/∃x∈xs,k∈x.kn:=by
 intro xs;induction xs with
 |nil=>exact fun acc h=>⟨h,fun k=>⟨.inl,fun z=>z.elim id fun⟨_,y,_⟩=>nomatch y⟩⟩
 |cons x r pS=>
  exact fun acc h=>by
   refine⟨(pS (Ct acc x.kn) (Cu x.kn acc h).1).1,fun k=>?_⟩;show k∈Ai (Ct acc x.kn) r↔_;rw[(pS (Ct acc x.kn) (Cu x.kn acc h).1).2,(Cu x.kn acc h).2,or_assoc];refine or_congr Iff.rfl ⟨?_,?_⟩
   ·rintro (z|⟨y,h1,h2⟩)
    ·exact⟨x,.head _,z⟩
    ·exact⟨y,.tail _ h1,h2⟩
   ·rintro ⟨y,h1,h2⟩;rcases aA.mp h1 with e|h1
    ·exact .inl (e▸h2)
    ·exact .inr ⟨y,h1,h2⟩
section
variable{H:MH}{fa:Int->Addr}{al:Addr}
theorem ug.keys(h:ug H fa ps xs):∀k,(∃x∈xs,k∈x.kn)↔∃p∈ps,k∈vh p.ts:=by
 induction h with
 |nil=>exact fun k=>⟨fun⟨_,z,_⟩=>(nomatch z),fun⟨_,z,_⟩=>(nomatch z)⟩
 | @cons p x r xs h _ ih=>
  intro k;constructor
  ·rintro ⟨y,h1,h2⟩;rcases aA.mp h1 with e|h1
   ·obtain⟨q,g1,g2⟩:=(h.ks k).mp (e▸h2);rw[aI.mp g1]at g2;exact⟨p,.head _,g2⟩
   ·obtain⟨q,g1,g2⟩:=(ih k).mp ⟨y,h1,h2⟩;exact⟨q,.tail _ g1,g2⟩
  ·rintro ⟨q,h1,h2⟩;rcases aA.mp h1 with e|h1
   ·exact⟨x,.head _,(h.ks k).mpr ⟨p,.head _,e▸h2⟩⟩
   ·obtain⟨y,Kl⟩:=(ih k).mpr ⟨q,h1,h2⟩;exact⟨y,.tail _ Kl.1,Kl.2⟩
theorem ug.sorted(h:ug H fa ps xs)(g:Pw H fa ps da pl ka kn):qF kn=qF (Ai [] xs)/\(Ai [] xs).length<64:=by
 have e:∀k,k∈Ai [] xs↔k∈kn:=fun k=>by rw[(Cv xs [] .nil).2,g.ks,<-h.keys];exact⟨fun z=>z.elim (fun y=>nomatch y) id,.inr⟩
 exact⟨FU g.nk.n (Cv xs [] .nil).1 fun k=>(e k).symm,bM (show vz (Ai [] xs)from⟨(Cv xs [] .nil).1,fun n hn=>g.nk.b n ((e n).mp hn)⟩).len ⋯⟩
def sIn(d:Nat):V->List Int->Loc->MH->(List Int->Loc->MH->Prop)->Prop:=fun y acc r H K=>wA Th (pz Th (pB sA) d) (.v 2) y r H (fun r' H2=>wE Th (pz Th (pB sA) d) (.v 2) r' H2 (fun v H3=>∃i,v=.int i/\(i=1\/i=2)/\K (wC i acc) r' H3) ub) ub
def Yw(d:Nat):V->List Int->Loc->MH->(List Int->Loc->MH->Prop)->Prop:=fun x acc r H K=>wA Th (pz Th (pB sA) d) (.v 1) x r H (fun r' H2=>wE Th (pz Th (pB sA) d) (.attr (.v 1) 18) r' H2 (fun y H3=>qr H3 (fun l2 Rf=>l2.length<=pq/\Jd (sIn d) Rf l2 acc r' H3 K) y) ub) ub
theorem UA(Yl:ok H):∀(ks acc:List Int) (u2:V) (K:List Int->Loc->MH->Prop),(∀k∈ks,k=1\/k=2)->(∀u2,K (Ct acc ks) [u0,u1,u2] H)->Jd (sIn d) ok (iL ks) acc [u0,u1,u2] H K:=by
 intro ks;induction ks with
 |nil=>exact fun acc u2 K J k=>⟨Yl,k u2⟩
 |cons x r pS=>exact fun acc u2 K b k=>by refine⟨Yl,?_⟩;simp![sIn];exact⟨b x (.head _),pS _ _ K (fun y hy=>b y (.tail _ hy)) k⟩
theorem PB(ha:H al=some (.list vs)):∀{ps:List uI} {xs:List Dv} (acc:List Int) (u1 u2:V) (K:List Int->Loc->MH->Prop),ug H fa ps xs->(∀U,K (Ai acc xs) U H)->
  Jd (Yw d) (fun H'=>H' al=some (.list vs)) (CG xs) acc [u0,u1,u2] H K:=by
 intro ps xs acc u1 u2 K h;induction h generalizing acc u1 u2 K with
 |nil=>exact fun k=>⟨ha,k _⟩
 | @cons p x r xs h t ih=>
  intro k;obtain⟨ep,hk⟩:=h.k;refine⟨ha,?_⟩;have ho:=h.o;unfold uR at ho;simp![Yw];have e:((wz x.kn).map fun e:Int×V=>V.int e.1)=iL x.kn:=by unfold wz;refine dP.symm▸?_;rfl
  have l2:=h.nk.len;refine .uH hk (by unfold wz;rw[ah];exact ae l2 ⋯) ?_;refine e▸?_;refine⟨by rw[ah];exact ae l2 ⋯,UA ⟨_,hk,rfl⟩ _ _ _ _ h.nk.b fun u2=>?_⟩;exact ih _ _ _ K k
theorem wR.shape(h:wR r):∃(k x y:Int) (z:List V),z.length<=2/\r=.tup (.int k::.int x::.int y::z):=by
 induction h using wR.casesOn with
 |chr=>exact⟨_,_,_,_,av rfl,rfl⟩
 |uk=>exact⟨_,_,_,_,av rfl,rfl⟩
 |uC=>exact⟨_,_,_,_,av rfl,rfl⟩
theorem I9:∀(rs acc:List V) (u1:V) (Q:List V->MH->Prop),(∀r∈rs,wR r)->Q (acc++rs.map (MZ a b)) H->
  sF (qx Th (pz Th (pB sA) d) (.v 1) (.c (.bool true)) (.bin .add (.tup (.cons (.sub (.v 1) (.c (.int 0))) (.cons (.bin .add (.sub (.v 1) (.c (.int 1))) (.v 2)) (.cons (.bin .add (.sub (.v 1) (.c (.int 2))) (.v 3)) .nil)))) (.Al (.v 1) (.c (.int 3)) (.c .none)))) (fun J=>True) rs acc [u0,u1,.int a,.int b] H Q:=by
 intro rs;induction rs with
 |nil=>exact fun acc u1 Q J K=>⟨trivial,by rw[show acc=acc++gP (MZ a b) []from(aO _).symm];exact K⟩
 |cons r rs Yx=>
  exact fun acc u1 Q h K=>by
   refine⟨trivial,?_⟩;have key:∀(k x y:Int) (z:List V),z.length<=2->r=.tup (.int k::.int x::.int y::z)->qx Th (pz Th (pB sA) d) (.v 1) (.c (.bool true)) (.bin .add (.tup (.cons (.sub (.v 1) (.c (.int 0))) (.cons (.bin .add (.sub (.v 1) (.c (.int 1))) (.v 2)) (.cons (.bin .add (.sub (.v 1) (.c (.int 2))) (.v 3)) .nil)))) (.Al (.v 1) (.c (.int 3)) (.c .none))) r [u0,u1,.int a,.int b] H fun qp o H'=>sF (qx Th (pz Th (pB sA) d) (.v 1) (.c (.bool true)) (.bin .add (.tup (.cons (.sub (.v 1) (.c (.int 0))) (.cons (.bin .add (.sub (.v 1) (.c (.int 1))) (.v 2)) (.cons (.bin .add (.sub (.v 1) (.c (.int 2))) (.v 3)) .nil)))) (.Al (.v 1) (.c (.int 3)) (.c .none)))) (fun J=>True) rs (uU acc o) qp H' Q:=fun k x y z hz e=>by
    subst e;simp![qx];refine .tup ⋯ (sU (cH _)) rfl (.tup ⋯ (sU (i:=1) (bI ..)) rfl ?_);lia;refine .tup ⋯ (sU (i:=2) (bI ..)) rfl ?_;lia;have e3:rR (V.int k::V.int x::V.int y::z) (some 3) Option.none=z:=by show pf (z.length+3 - 3) z=z;rw[iV,List.take_length]
    refine .tup .int .none (ae (m:=5) (bB hz 3) ⋯) ?_;rw[e3];refine .Q6 (ae (m:=5) (by exact Z.o 0x11112213851513831315 [] [_] rfl hz) ⋯) ?_;exact(Yx (acc++[MZ a b (.tup (.int k::.int x::.int y::z))]) (.tup (.int k::.int x::.int y::z)) Q (fun r hr=>h r (.tail _ hr)) (by rw[ax];exact K))
   have hr:=h r (.head _);obtain⟨k,x,y,z,hz,e⟩:=hr.shape;exact key k x y z hz e
end
noncomputable def QN:FW:=fun n c=>if n=1 then(if c=65 then some 12 else if c=200 then some 40 else none)else if n=2 then(if c=65 then some 40 else if c=200 then some 7 else none)else none
noncomputable def faL(f1 f2:Addr):Int->Addr:=fun n=>if n=1 then f1 else f2
theorem UB:∀n x w,QN n x=some w->n=1\/n=2:=fun n x w h=>by
 unfold QN at h;split at h
 ·exact .inl (by assumption)
 ·split at h
  ·exact .inr (by assumption)
  ·exact Z.nS h
theorem UC:∀n c,n=1\/n=2->c=65\/c=200->∃w,QN n c=some w/\-70000<=w/\w<=70000:=fun n c h g=>by rcases h with e|e<;>rcases g with e'|e'<;>subst e e'<;>exact⟨_,rfl,by decide,by decide⟩
theorem Ek{w1 w2 c:Int}:p8 c (MY w1 w2)=if c=65 then some (x9 w1)else if c=200 then some (x9 w2)else none:=by
 unfold MY;by_cases h:c=65
 ·subst h;rfl
 ·rw[if_neg h];by_cases g:c=200
  ·subst g;rfl
  ·rw[if_neg g];unfold p8 p8 p8;simp[h,g,Ne.symm h,Ne.symm g]
section
variable{H:MH}
theorem QO{n w1 w2:Int}(rL:n=1\/n=2)(h:H a=some (zM n (Vi n) pr ch))(g:H ch=some (.dict (MY w1 w2) ep))(e:∀c,QN n c=if c=65 then some w1 else if c=200 then some w2 else none):wN H QN n a:=
 ⟨_,_,_,_,_,rL,h,rfl,g,fun c hc=>by
  rw[Ek]
  rw[e]at hc
  split at hc
  ·exact nomatch hc
  ·rename_i n1
   rw[if_neg n1]
   split at hc
   ·exact nomatch hc
   ·rename_i n2
    rw[if_neg n2],fun c w hc=>by
  rw[Ek]
  rw[e]at hc
  split at hc
  ·rename_i n1
   rw[if_pos n1];obtain rfl:=au hc;rfl
  ·rename_i n1
   rw[if_neg n1]
   split at hc
   ·rename_i n2
    rw[if_pos n2];obtain rfl:=au hc;rfl
   ·exact Z.nS hc⟩
theorem UD(h1:H f1=some (zM 1 (Vi 1) p1 c1))(g1:H c1=some (.dict (MY 12 40) e1))(h2:H f2=some (zM 2 (Vi 2) p2 c2))(g2:H c2=some (.dict (MY 40 7) e2))(hd:H fd=some (.dict [(1,.ref f1),(2,.ref f2)] e3)):rX H QN (faL f1 f2) fd [(1,.ref f1),(2,.ref f2)]:=
 ⟨⟨_,hd⟩,fun n h=>by rcases h with e|e<;>subst e<;>rfl,fun n h=>by
  rcases h with e|e
  ·subst e;exact QO (.inl rfl) h1 g1 fun c=>rfl
  ·subst e;exact QO (.inr rfl) h2 g2 fun c=>rfl⟩
theorem Yy:∀n:Nat,hH (aK n [V.int 1])=iL (aK n 1):=by
 intro n;induction n with
 |zero=>exact rfl
 |succ n Bw=>exact by rw[eU,gx,Bw];rfl
structure LT(H0 H:MH)(fa:Int->Addr)(al:Addr)(ps:List uI)(xs:List Dv)(da pl ka:Addr)(kn:List Int):Prop where
 old:∀x o,H0 x=some o->H x=some o
 al:H al=some (.list (CG xs))
 dvs:ug H fa ps xs
 dv:Pw H fa ps da pl ka kn
theorem LT.more{al:Addr}(h:LT H0 H fa al ps xs da pl ka kn)(k:∀x o,H x=some o->H' x=some o):LT H0 H' fa al ps xs da pl ka kn:=
 ⟨fun x o e=>k _ _ (h.old _ _ e),k _ _ h.al,h.dvs.more k,h.dv.more k⟩
theorem LT.new{al r:Addr}(h:LT H0 H fa al ps xs da pl ka kn)(nr:H r=none):LT H0 (H.upd r o) fa al ps xs da pl ka kn:=
 h.more fun x o e=>pj (px nr e) e
theorem LT.o{al:Addr}(h:LT H0 H fa al ps xs da pl ka kn):H da=some (.inst 901 [(68,uV),(9,.bytes (nI glue)),(42,.ref pl),(18,.ref ka),(67,.int (qJ sv 0 ps)),(71,.int (qJ sx 0 ps)),(10,.int (qJ (sy fa) 0 ps))]):=h.dv.o
theorem Aj(hd:1<=d)(hk:k.natAbs<2^60)(e1:idx 3 k=some j)(e2:∀p,[V.int (one sv p),.int (one sx p),.int (one (sy fa) p)][j]? =some (.int (one f p)))(hl:(CG xs).length<=pq)(s:LT H0 H fa al (p0::r0) xs da pl ka kn)(K:∀H',LT H0 H' fa al (p0::r0) xs da pl ka kn->R [u0,.int k,.ref al] (some (.int (qJ f 0 (p0::r0)))) H'):
  qx Th (pz Th (pB sA) d) (.v 1) (.c (.bool true)) (.blt .max (.cons (.comp 3 [(2,1)] (.v 1) (.v 2) (.c (.bool true)) (.sub (.call 100 (.cons (.v 1) .nil)) (.v 2))) .nil)) (.int k) [u0,u1,.ref al] H R:=by simp![qx];refine .lst s.al hl ⟨hl,?_⟩;refine I8 (H0:=H) hd hk e1 e2 s.al H [] _ _ (fun J J e=>e) s.dvs fun H2 o2=>?_;intro r nr;refine .tL up_eq (xq _) ?_;rw[Mz];exact K _ ((s.more o2).new nr)
theorem MB(hd:1<=d)(hl:(CG xs).length<=pq)(s:LT H0 H fa al (p0::r0) xs da pl ka kn)(K:∀H',LT H0 H' fa al (p0::r0) xs da pl ka kn->(∀x o,H x=some o->H' x=some o)->Q (iL [qJ sv 0 (p0::r0),qJ sx 0 (p0::r0),qJ (sy fa) 0 (p0::r0)]) H'):
  sF (qx Th (pz Th (pB sA) d) (.v 1) (.c (.bool true)) (.blt .max (.cons (.comp 3 [(2,1)] (.v 1) (.v 2) (.c (.bool true)) (.sub (.call 100 (.cons (.v 1) .nil)) (.v 2))) .nil))) (fun J=>True) (sW 0 3 1) [] [u0,u1,.ref al] H Q:=by rw[show sW 0 3 1=[V.int 0,V.int 1,V.int 2]from rfl];refine⟨trivial,Aj (f:=sv) hd ⋯ rfl (fun J=>rfl) hl (⟨fun J J e=>e,s.al,s.dvs,s.dv⟩) fun H1 s1=>⟨trivial,Aj (f:=sx) hd ⋯ rfl (fun J=>rfl) hl s1 fun H2 s2=>⟨trivial,Aj (f:=sy fa) hd ⋯ rfl (fun J=>rfl) hl s2 fun H3 s3=>⟨trivial,K H3 (s.more s3.old) s3.old⟩⟩⟩⟩
def QP:Ss:=match Ab.body with| .cons _ (.cons _ (.cons _ r))=>r|r=>r
theorem MC(hd:12<=d)(hm:0<=m/\m<1000003)(CC:∀n x w,fw n x=some w->n=1\/n=2)(Yz:2<=ps.length/\ps.length<=3)(ht:t<=1000)(lw:Lw G H b pl s1 zl zo fd m ys fw fa fes ps t)(K:∀H',H' zl=some zo->Q (.bool true) H'):
  rest Th (pz Th (pB sA) d) QP (rK Q) E [.ref s1,.ref b,.ref fd,.ref pl,l4,l5,l6,l7,.rG,.rG,.rG,.rG,.rG,.rG,.rG,.rG,.rG] H:=by
 have F7:=lw.f.more lw.old;have O7:∀p∈ps,vp H fw fa p:=fun p hp=>(lw.ok p hp).more lw.old;have pp:=lw.pp;have UE:ps.length<=5:=ae Yz.2 ⋯;have YA:(ps.map vA).length<=pq:=by rw[ah];exact ae UE ⋯
 unfold QP;simp![Ab];refine uq hd pp F7 CC O7 UE fun H1 da Qq ka kn o1 dv=>?_;lia;refine .lst (o1 _ _ pp) YA ⟨YA,?_⟩;simp![wb];refine FX (H0:=H) (fa:=fa) hd pp F7 CC ps [] H1 [] _ _ o1 O7 .nil fun H2 xs o2 dvs=>?_;intro al Hl;rw[cU]at dvs;have al2:(H2.upd al (.list (CG xs))) al=some (.list (CG xs)):=up_eq;have o3:∀x o,H1 x=some o->(H2.upd al (.list (CG xs))) x=some o:=fun x o e=>pj (px Hl (o2 _ _ e)) (o2 _ _ e);have dvs:=dvs.more (H':=H2.upd al (.list (CG xs))) fun x o e=>pj (px Hl e) e;have dv:=dv.more o3;have o3:∀x o,H x=some o->(H2.upd al (.list (CG xs))) x=some o:=fun x o e=>o3 _ _ (o1 _ _ e);generalize H2.upd al (.list (CG xs))=H3 at al2 dvs dv o3 ⊢;have s:LT H H3 fa al ps xs da Qq ka kn:=⟨o3,al2,dvs,dv⟩;have UG:(CG xs).length<=pq:=by unfold CG;rw[ah,dvs.len];exact ae UE ⋯
 have ho:=s.o;lia;refine .lst al2 UG ⟨UG,?_⟩;simp![wb];refine Ej al2 [] _ _ dvs ?_;rw[cU];intro r1 L7;have e1:(H3.upd r1 (.list (ps.map (CF fa)))) r1=some (.list (ps.map (CF fa))):=up_eq;have s:=s.new L7 (o:=.list (ps.map (CF fa)));generalize H3.upd r1 (.list (ps.map (CF fa)))=H4 at e1 s ⊢;refine .MN (Ei rfl rfl s.dv.p e1) (Lu ?_);lia;refine .lst s.al UG ⟨UG,?_⟩;simp![wb];refine I7 s.al [] _ _ s.dvs ?_;rw[cU];intro r2 Uo;have e2:(H4.upd r2 (.list (iL (aK ps.length 1)))) r2=some (.list (iL (aK ps.length 1))):=up_eq;have s:=s.new Uo (o:=.list (iL (aK ps.length 1)));generalize H4.upd r2 (.list (iL (aK ps.length 1)))=H5 at e2 s ⊢;lia;intro r3 nr3;have e3:(H5.upd r3 (.list [V.int 1])) r3=some (.list [V.int 1]):=up_eq;have s:=s.new nr3 (o:=.list [V.int 1]);have e2:(H5.upd r3 (.list [V.int 1])) r2=_:=pj (px nr3 e2) e2;generalize H5.upd r3 (.list [V.int 1])=H6 at e2 e3 s ⊢;refine .ud (s.old _ _ pp) YA ?_;rw[ah];refine .mulL e3 (by show((1:Nat):Int)*_<=_;rw[show((1:Nat):Int)=1 from rfl,gF];exact Z.cil Yz.2 rfl) Z.cn nofun ?_;rw[cZ,Yy];intro r4 nr4;refine .MN (Cr rfl (pj (px nr4 e2) e2) up_eq) (Lu ?_);have s:=s.new nr4 (o:=.list (iL (aK ps.length 1)));generalize H6.upd r4 (.list (iL (aK ps.length 1)))=H7 at s ⊢;lia;refine Bq (qB hd rfl) s.dv fun r5 nr5=>?_;have e5:(H7.upd r5 (.list (iL [qJ sv 0 ps,qJ sx 0 ps,qJ (sy fa) 0 ps]))) r5=some (.list (iL [qJ sv 0 ps,qJ sx 0 ps,qJ (sy fa) 0 ps])):=up_eq;have s:=s.new nr5 (o:=.list (iL [qJ sv 0 ps,qJ sx 0 ps,qJ (sy fa) 0 ps]));generalize H7.upd r5 (.list (iL [qJ sv 0 ps,qJ sx 0 ps,qJ (sy fa) 0 ps]))=H8 at e5 s ⊢;lia;refine .CL ⋯ (.Ak (.inl rfl) ⋯ ⋯ ⟨by decide,?_⟩);obtain⟨p0,r0,rfl⟩:∃p0 r0,ps=p0::r0:=by
  induction ps using aH with
  |nil=>exact absurd Yz.1 ⋯
  |cons p r=>exact⟨p,r,rfl⟩
 refine MB (qB hd rfl) UG s fun H9 s o9=>?_;have e5:=o9 _ _ e5;intro r6 nr6;refine .MN (Cr rfl (pj (px nr6 e5) e5) up_eq) (Lu ?_);have s:=s.new nr6 (o:=.list (iL [qJ sv 0 (p0::r0),qJ sx 0 (p0::r0),qJ (sy fa) 0 (p0::r0)]));generalize H9.upd r6 (.list (iL [qJ sv 0 (p0::r0),qJ sx 0 (p0::r0),qJ (sy fa) 0 (p0::r0)]))=H10 at s ⊢;lia;refine .lst (s.old _ _ pp) (ae YA ⋯) ?_;refine jF.symm▸?_;intro r7 nr7;have e7:(H10.upd r7 (.list ((p0::r0).reverse.map vA))) r7=some (.list ((p0::r0).reverse.map vA)):=up_eq;have s:=s.new nr7 (o:=.list ((p0::r0).reverse.map vA));generalize H10.upd r7 (.list ((p0::r0).reverse.map vA))=H11 at e7 s ⊢;refine uq hd e7 (F7.more s.old) CC (fun p hp=>(O7 p (gQ.mp hp)).more s.old) (by rw[eV];exact UE) fun H12 da2 pl2 ka2 kn2 Yv dv2=>?_;have s:=s.more Yv;have ho2:=dv2.o;unfold uR at ho2;have ho:=s.o;lia;refine .lst s.dv.p (by rw[ah];exact ae UE ⋯) ?_;refine jF.symm▸?_;intro r8 nr8;refine .MN (Ei rfl rfl (pj (px nr8 dv2.p) dv2.p) up_eq) (Lu ?_);have s:=s.new nr8 (o:=.list ((p0::r0).reverse.map (CF fa)));generalize H12.upd r8 (.list ((p0::r0).reverse.map (CF fa)))=H13 at s ⊢;have ho:=s.o;obtain⟨XZ,hk1⟩:=s.dv.k;have HU:=s.dvs.sorted s.dv;lia;refine .sorted hk1 (by unfold wz;rw[ah];exact bM s.dv.nk.len ⋯) ?_;rw[show(wz kn).map ar=kn by unfold wz;rw[dP];exact j4 _];intro r9 nr9;have e9:(H13.upd r9 (.list (iL (qF kn)))) r9=some (.list (iL (qF kn))):=up_eq;have s:=s.new nr9 (o:=.list (iL (qF kn)));generalize H13.upd r9 (.list (iL (qF kn)))=H14 at e9 s ⊢;lia;refine .lst s.al UG ⟨UG,PB (d:=d) s.al [] _ _ _ s.dvs fun U=>⟨HU.2,?_⟩⟩;intro r10 YB;refine .MN (Cr HU.1 (pj (px YB e9) e9) up_eq) (Lu ?_);have s:=s.new YB (o:=.list (iL (qF (Ai [] xs))));generalize H14.upd r10 (.list (iL (qF (Ai [] xs))))=YC at s ⊢;have UH:=s.old _ _ pp;obtain⟨c0,t0,hb,PC⟩:=lw.bx;have hb:=s.old _ _ hb;lia;refine .ud UH YA ?_;rw[ah];lia;refine qa (qB hd rfl) hb ⟨PC.1,Z.o 0x11111139808e3339020424f5380 [_,_] [] rfl ht PC.2⟩ hm ⟨Z.o 0x1110113816031 [] [_] rfl,bq.mpr (ae UE ⋯)⟩ fun wh c1 t1 w0 w1 p1 q1=>?_;lia;refine qa (qB hd rfl) up_eq ⟨p1,Z.o 0x111111114113a1809a08e3339030424f5380 [_,_,_] [] rfl ht PC.2 q1⟩ hm ⋯ fun v2 c2 t2 a0 a1 p2 q2=>?_;rw[pF];refine uS ⟨a0,a1⟩ fun x bx=>?_;lia;refine qa (qB hd rfl) up_eq ⟨p2,Z.o 0x11111111115113b180113a1b09a08e3339040424f5380 [_,_,_,_] [] rfl ht PC.2 q1 q2⟩ hm ⋯ fun v3 c3 t3 b0 b1 p3 q3=>?_;rw[pF];refine uS ⟨b0,b1⟩ fun y byy=>?_;have Yt:pl≠b:=rV UH hb nofun;have YD:(YC.upd b (xx c3 t3 m)) pl=some (.list ((p0::r0).map vA)):=pj Yt UH;have ho:(YC.upd b (xx c3 t3 m)) da=_:=pj (rV s.o hb nofun) s.o;have hq:(YC.upd b (xx c3 t3 m)) Qq=some (.list ((p0::r0).map (CF fa))):=pj (rV s.dv.p hb nofun) s.dv.p;have oG:∀x o,G x=some o->(YC.upd b (xx c3 t3 m)) x=some o:=fun x o e=>pj (fun z=>by rw[z,lw.gb]at e;exact Z.nS e) (s.old _ _ (lw.old _ _ e));generalize YC.upd b (xx c3 t3 m)=H16 at YD ho hq oG ⊢;obtain⟨i,rfl⟩:∃i:Nat,(i:Int)=wh:=⟨wh.toNat,iu w0⟩;have hi:i<(p0::r0).length:=bR.mp w1;have gp:=lw.ok _ (jD hi);have gb:=lw.bd _ (jD hi);have em:∀f:uI->V,((p0::r0).map f)[i]? =some (f ((p0::r0)[i])):=fun f=>by rw[bO,bc hi];rfl
 have ei:∀f:uI->V,idx ((p0::r0).map f).length (i:Int)=some i:=fun f=>by rw[ah];exact sU hi
 have i60:(i:Int).natAbs<2^60:=vR (m:=0) (ae (bC hi) (ae UE ⋯));generalize (p0::r0)[i]=p at gp gb em;lia;refine .lst YD i60 (ei _) (em _) ?_;unfold vA;lia;intro r11 UI;have o11:∀x' o,G x'=some o->(H16.upd r11 (.list [.tup [.ref p.a,.tup (iL p.cs),.int (p.X+x),.int (p.Y+y)]])) x'=some o:=fun x' o e=>pj (px UI (oG _ _ e)) (oG _ _ e);have g':vp G fw fa {p with X:=p.X+x,Y:=p.Y+y}:=⟨gp.o,gp.l,gp.s,gp.t,gp.z,gp.n,gp.lv,gp.bw,gp.bh,gp.bd,⟨by show -100000<=p.X+x;exact Z.o 0x11111138030907111535029810a6815350 [_,_] [] rfl bx.1 gb.1.1,by show p.X+x<=100000;exact Z.o 0x1111113c3238107111539020a681539810 [_,_] [] rfl bx.2 gb.1.2⟩,⟨by show -100000<=p.Y+y;exact Z.o 0x11111138030907111535029810a6815350 [_,_] [] rfl byy.1 gb.2.1,by show p.Y+y<=100000;exact Z.o 0x1111113c3238107111539020a681539810 [_,_] [] rfl byy.2 gb.2.2⟩,gp.cs,gp.cl⟩;refine uq (ps:=[{p with X:=p.X+x,Y:=p.Y+y}]) (fw:=fw) (fa:=fa) (fes:=fes) hd up_eq (lw.f.more o11) CC (fun q hq=>by rw[aI.mp hq];exact g'.more o11) (av rfl) fun H17 da3 pl3 ka3 kn3 o17 dv3=>?_;have ho3:=dv3.o;unfold uR at ho3;have ho:=o17 _ _ (pj (px UI ho) ho);have hq:=o17 _ _ (pj (px UI hq) hq);lia;refine .lst dv3.p ⋯ rfl rfl ?_;lia;refine .lst hq i60 (ei _) (em _) ?_;have rl:∀p:uI,sQ p.ts<=15->(Aa fa p []).rows.length<=15:=fun p hp=>ae (Bp p.ts p.X (p.Y+p.h) 0 0 (Jh [])) (by show 0+sQ p.ts<=15;exact Z.o 0x11112f13851f1380315 [] [_] rfl hp);have rl1:=rl p gp.n;unfold CF;lia;refine .tup (ae rl1 ⋯) ⟨ae rl1 ⋯,?_⟩;simp![wb];refine I9 (d:=d) (a:=x) (b:=y) _ [] _ _ (Eh fa p) ?_;rw[cU];intro r12 ao6;refine .Ni up_eq (by rw[ah];exact ae rl1 ⋯) ?_;have hz:(H17.upd r12 (.list ((Aa fa p []).rows.map (MZ x y)))) zl=some zo:=have z:=o17 _ _ (o11 _ _ lw.z);pj (px ao6 z) z;generalize H17.upd r12 (.list ((Aa fa p []).rows.map (MZ x y)))=H18 at hz ⊢;have es:sV H18 6 (CF fa {p with X:=p.X+x,Y:=p.Y+y}) (CF fa {p with X:=p.X+x,Y:=p.Y+y}):=Hg (n:=2) _;unfold CF at es;refine .eqT (b:=[V.tup (iL (ye p.cs 10 0)),V.tup ((Aa fa p []).rows.map (MZ x y))]) ?_ (brT ?_)
 ·rw[<-Pz];exact es
 ·exact K _ hz
theorem UJ(hd:13<=d)(h:H sl=some (.rl (iL xs) vs k))(hl:xs.length<=2^23)(K:∀H',H' sl=some (.rl (iL xs) vs k)->Q (.bool true) H'):pz Th (pB sA) d 101 [.ref sl] H Q E:=by
 refine call_of (fn:=Ab) (qB hd rfl) rfl rfl ?_;simp![Ab];refine .rl h .none .int (by rw[ah];exact hl) ?_;have e5:rR (iL xs) Option.none (some 5)=iL (xs.take 5):=by show pf (5 - 0) (jP 0 (iL xs))=_;rw[oj,mR];exact nN.symm
 refine e5▸?_;have hy:(xs.take 5).length<=5:=by rw[gO];exact mF _ _
 generalize xs.take 5=ys at hy;intro s1 ns1;have YE:(H.upd s1 (.list (iL ys))) s1=some (.list (iL ys)):=up_eq;have h1:(H.upd s1 (.list (iL ys))) sl=_:=pj (px ns1 h) h;generalize H.upd s1 (.list (iL ys))=H1 at YE h1 ⊢;lia;refine z9 (k:=0) (pV hd rfl) YE (ae hy ⋯) ⋯ fun c0 m b m0 m1 nb H2 o2 hb=>?_;lia;intro r1 L7;refine vo (pV hd rfl) (.inl rfl) up_eq (vg ⋯) (vg ⋯) fun H3 f1 p1 c1 XZ o3 g1 g2=>?_;intro r2 Uo;refine vo (pV hd rfl) (.inr rfl) up_eq (vg ⋯) (vg ⋯) fun H4 f2 p2 c2 L6 o4 g3 g4=>?_;lia;refine(fun ep fd Vc pl Pm=>?_);have zp:=pA Pm;have o4':∀x o,H3 x=some o->H4 x=some o:=fun x o e=>o4 _ _ (pj (px Uo e) e);have o5:∀x o,H4 x=some o->(H4.upd fd (.dict (hJ (fun es e=>dput e.fst e.snd es) [] ([1,2].zip [V.ref f1,V.ref f2])) ep)) x=some o:=fun x o e=>pj (px Vc e) e;have q1:=o5 _ _ (o4' _ _ g1);have q2:=o5 _ _ (o4' _ _ g2);have q3:=o5 _ _ g3;have q4:=o5 _ _ g4;have qd:(H4.upd fd (.dict (hJ (fun es e=>dput e.fst e.snd es) [] ([1,2].zip [V.ref f1,V.ref f2])) ep)) fd=some (.dict [(1,.ref f1),(2,.ref f2)] ep):=up_eq;have o25:∀x o,H2 x=some o->(H4.upd fd (.dict (hJ (fun es e=>dput e.fst e.snd es) [] ([1,2].zip [V.ref f1,V.ref f2])) ep)) x=some o:=fun x o e=>o5 _ _ (o4' _ _ (o3 _ _ (pj (px L7 e) e)));have b5:=o25 _ _ hb;have s5:=o25 _ _ (o2 _ _ YE);have z5:=o25 _ _ (o2 _ _ h1);generalize H4.upd fd (.dict (hJ (fun es e=>dput e.fst e.snd es) [] ([1,2].zip [V.ref f1,V.ref f2])) ep)=H5 at Pm q1 q2 q3 q4 qd b5 s5 z5 ⊢;have mo:∀x o,H5 x=some o->o≠xx c0 0 m->minus H5 b x=some o:=fun x o e n=>qi (rV e b5 n) e;have bne:b≠pl:=px Pm b5;have Nc:Lw (minus H5 b) (H5.upd pl (.list [])) b pl s1 sl (.rl (iL xs) vs k) fd m ys QN (faL f1 f2) [(1,.ref f1),(2,.ref f2)] [] 0:=⟨fun x o e=>pj (px Pm (p9 e).2) (p9 e).2,tZ,qi bne.symm Pm,⟨c0,0,pj bne b5,cz 0,cz 0⟩,up_eq,fun p hp=>(nomatch hp),UD (mo _ _ q1 nofun) (mo _ _ q2 nofun) (mo _ _ q3 nofun) (mo _ _ q4 nofun) (mo _ _ qd nofun),qi (fun z=>by rw[z,nb]at YE;exact Z.nS YE) s5,qi (fun z=>by rw[z,nb]at h1;exact Z.nS h1) z5,fun p hp=>(nomatch hp)⟩;have bl:(H5.upd pl (.list [])) b=some (xx c0 0 m):=pj bne b5;generalize minus H5 b=G at Nc;generalize H5.upd pl (.list [])=H6 at Nc bl ⊢;lia;refine qa (pV hd rfl) bl ⋯ ⟨m0,m1⟩ ⋯ fun cnt c5 t5 w0 w1 p5 q5=>?_;lia;have lw1:Lw G (H6.upd b (xx c5 t5 m)) b pl s1 sl (.rl (iL xs) vs k) fd m ys QN (faL f1 f2) [(1,.ref f1),(2,.ref f2)] [] 1:=⟨fun x o e=>pj (fun z=>by rw[z,Nc.gb]at e;exact Z.nS e) (Nc.old _ _ e),Nc.gb,Nc.gp,⟨c5,t5,up_eq,p5,q5⟩,pj bne.symm Nc.pp,fun p hp=>(nomatch hp),Nc.f,Nc.s,Nc.z,fun p hp=>(nomatch hp)⟩;refine .CL (Z.wl (Z.o 0x111128030182131000000000000000100000000f3651 [_] [] rfl w0) (Z.o 0x11112213811000000000000000100000000f36821311 [_] [] rfl w1)) (.Ak (.inl rfl) ⋯ (Z.wl (Z.o 0x111128030182131000000000000000100000000f3651 [_] [] rfl w0) (Z.o 0x11112213811000000000000000100000000f36821311 [_] [] rfl w1)) ?_);obtain⟨n,hn⟩:∃n:Nat,(n:Int)=2+cnt:=⟨(2+cnt).toNat,iu (Z.o 0x111128030182131030 [_] [] rfl w0)⟩;have hn3:n=2\/n=3:=(Z.bi (k:=2) (p:=fun c=>c=0\/c=1) w0 w1 rfl).imp (fun e=>fN (hn.trans (congrArg (2+·) e))) fun e=>fN (hn.trans (congrArg (2+·) e));rw[show sW 0 (2+cnt) 1=sW ((0:Nat):Int) (((0:Nat):Int)+(n:Nat)) 1 by refine hn.symm▸?_;congr 1;exact Z.o 0x1111110821310361821312 [_] [] rfl];refine FV (pV hd rfl) ⟨m0,m1⟩ hy UC n 0 [] G _ 1 _ _ _ _ (Z.o 0x111111482131862213812a1380315 [_] [_] rfl w1 hn) (by show 0+n<=10;exact Z.o 0x111111482131862213812a1380315 [_] [_] rfl w1 hn) (Z.o 0x3131114821318622138128e3338631411310 [_] [_] rfl w1 hn) lw1 fun G7 H7 ps l4 l5 l6 l7 lw Yz=>?_;exact MC (dM hd) ⟨m0,m1⟩ UB (by refine Yz▸?_;show 2<=0+n/\0+n<=3;exact⟨Z.o 0x11011114821318628030280312135 [_] [_] rfl w0 hn,Z.o 0x11111148213186221381231380315 [_] [_] rfl w1 hn⟩) (Z.o 0x3131114821318622138128e3338631411310 [_] [_] rfl w1 hn) lw K
end
end Mine.Internal
set_option maxRecDepth 100000
set_option maxHeartbeats 0
namespace Mine.Internal
open PySem PySem.W PyProof.Rows
namespace Hd
noncomputable abbrev pw:Program:=PySem.Challenge.pw_sq0080_02
noncomputable def vs(s:String)(t:Nat):ai:=.str (bj s) t
noncomputable def vi(i:Int)(t:Nat):ai:=.int i t
noncomputable def r(a:Nat):ai:=.ref a
noncomputable def e(P:aq)(s:String)(t:Nat)(v:ai):DictEntry:=⟨fu P (bj s),.str (bj s) t,v⟩
noncomputable def sq(l:List ai)(n:Nat):Data:=.seq l.toArray n
noncomputable def di(l:List DictEntry)(n:Nat):Data:=.dict l.toArray n
noncomputable def fs(l:List ai):Data:=.fields l.toArray
noncomputable def om(c:ai)(d:Data):Obj:=⟨c,none,d,#[]⟩
noncomputable def os(c:ai)(d:Data)(s:List (Option ai)):Obj:=⟨c,none,d,s.toArray⟩
noncomputable def od(c:ai)(a:Addr)(d:Data):Obj:=⟨c,some a,d,#[]⟩
noncomputable def ods(c:ai)(a:Addr)(d:Data)(s:List (Option ai)):Obj:=⟨c,some a,d,s.toArray⟩
noncomputable def putAt(x:α):List α->Nat->List α
 |[],_=>[]
 |_::l,0=>x::l
 |y::l,n+1=>y::putAt x l n
noncomputable def PD(l:List α):List (Nat×α)->List α
 |[]=>l
 |(i,x)::m=>PD (putAt x l i) m
def dd(o:Obj)(ch:List (Nat×DictEntry))(new:List DictEntry)(n:Nat):Obj:=match o with
 |⟨c,d,.dict es _,s⟩=>⟨c,d,.dict (PD es.toList ch++new).toArray n,s⟩
 |o=>o
def df(o:Obj)(ch:List (Nat×ai))(new:List ai):Obj:=match o with
 |⟨c,d,.fields vs,s⟩=>⟨c,d,.fields (PD vs.toList ch++new).toArray,s⟩
 |o=>o
def bE:List Stmt:=behindTheImports pw
def st(i:Nat):Stmt:=bE.getD i (.Pass ⟨0,0,0,0⟩)
def sm(i j:Nat):Stmt:=match st i with
 | .ClassDef _ _ _ b _ _ _ _ _ _ _=>b.getD j (.Pass ⟨0,0,0,0⟩)
 |s=>s
noncomputable def fd(s:Stmt)(q:String)(g:Addr)(c:List (PySem.Str×Addr))(dV kV doc pm:ai)(an:Option Addr)(cd ct:ai)(b:Addr):Data:=match s with
 | .FunctionDef n args body _ _ _ sc _ _ _=>.func {name:=n,qualname:=bj q,params:=args,body:=.stmts body,scope:=sc,globals:=g,closure:=c,defaults:=dV,kwdefaults:=kV,doc:=doc,pyModule:=pm,annotations:=an,code:=cd,closureTuple:=ct,builtins:=b}
 |_=>.plain
noncomputable def cl(n:String)(bs mro:List ai)(ns:Addr)(q:String)(hd:Bool)(sl:List PySem.Str)(sub:List ai)(ab:Bool)(co:Option Bool)(del:Bool):Data:=
 .cls {name:=bj n,bases:=bs,mro:=mro,ns:=ns,qualname:=bj q,hasDict:=hd,slotNames:=sl,subclasses:=sub,abstract:=ab,collection:=co,hasDel:=del}
noncomputable def tuU:BT->List (Nat×Obj)->BT
 |t,[]=>t
 |t,(i,o)::m=>tuU (t.set i fun J=>o) m
noncomputable def tuN:BT->Nat->List Obj->BT
 |t,_,[]=>t
 |t,n,o::l=>tuN (t.ins n o) (n+1) l
def tu(t:BT)(u:List (Nat×Obj))(n:Nat)(l:List Obj):BT:=tuN (tuU t u) n l
def Ja:Env:={scope:=pw.main.scope,locals:=mainNs,globals:=mainNs,cells:=[],code:=.ref 13,frame:=some 14}
def cE:Code:=.body bE Ja
noncomputable def UK:List Frame:=[topFrame ⟨0,0,0,0⟩]
def sg(a n:Nat):List Stmt:=(bE.drop a).take n
noncomputable def S(T:aq->BT)(n tk:Nat)(w:aP)(os:bf):SharedT:=⟨T w.params,n,{},#[],{},tk,os⟩
def th(l:List Stmt)(pos:Pos):Thread:=piecesOf l Ja cE pos UK
def rQ(w:aP)(N:Nat)(s:SharedT)(t:Thread):Option (Flow×SharedT×Code×Pos):=PySem.W.Fast.tw10110043849684766642 PySem.W.Fast.tw14364793385576792824 pw w 11 (some (r 6)) 1 N s t
theorem YF(w:aP)(N:Nat)(s:SharedT)(t:Thread):rQ w N s t=segRunT eO pw w 11 (some (r 6)) 1 N s t:=by rw[PySem.W.Fast.te10110043849684766642,PySem.W.Fast.te14364793385576792824];rfl
theorem up{w:aP}{N:Nat}{s s':SharedT}{t:Thread}{f:Flow}{c:Code}{q:Pos}(h:rQ w N s t=some (f,s',c,q)):segRun eO pw w 11 (some (r 6)) 1 N s.abs t=some (f,s'.abs,c,q):=segRun_of (by rw[<-YF];exact h)
theorem link{w:aP}{os:bf}{a n N M n0 tk n1 tk1:Nat}{pos pos':Pos}{T T':aq->BT}{rest:List Stmt}{z:Shared}(h:rQ w N (S T n0 tk w os) (th (sg a n) pos)=some (.next,S T' n1 tk1 w os,cE,pos'))
  (k:mI eO pw w 11 (some (r 6)) M (S T' n1 tk1 w os).abs (restOf rest Ja cE pos' UK)=some z):
  mI eO pw w 11 (some (r 6)) (N+M) (S T n0 tk w os).abs (restOf (sg a n++rest) Ja cE pos UK)=some z:=piece_app (q:=⟨0,0,0,0⟩) (up h) k
def t0:Obj:=om (.type "tuple") (sq [] 0)
def f0:Obj:=om .none (fs [])
def co(n q:String)(t L c f a:Nat)(b:Bool)(a':Nat)(l:List ai)(x:Nat):Obj:=om (.type "code") (fs ([vs n t,vs q (t+1),vs "/claim/cut.py" (t+2),vi L 0,vi c 0,vi 0 0,vi 0 0,vi f 0,r a,.bool b,vi 181 0,r a',.none]++(l++[vi x 0,vi L 0,vs "/claim/cut.py" (x+1)])))
noncomputable def qE(a t:Nat)(s:Stmt)(n q:String)(L c:Nat)(l:List String)(d m:ai):List Obj:=[t0,f0,om (.type "tuple") (sq (l.zipIdx.map fun x=>vs x.1 (t+3+x.2)) 0),t0,om .none (fd s q 0 [] .none .none .none .none none .none .none 0),co n q t L c 3 a true (a+1) [r (a+2),r (a+3),r (a+4)] (t+3+l.length),om (.type "function") (fd s q 3 [] d .none .none m none (r (a+5)) .none 0)]
noncomputable def Ds(a t:Nat)(s:Stmt)(n q:String)(L c:Nat)(d m:ai):List Obj:=[t0,f0,om .none (fd s q 0 [] .none .none .none .none none .none .none 0),co n q t L c 3 a true (a+1) [.none,.none,r (a+2)] (t+3),om (.type "function") (fd s q 3 [] d .none .none m none (r (a+3)) .none 0)]
noncomputable def pk(n:Nat)(l:List Addr)(os:List Obj):Frag:=bN (motive:=fun J=>Nat->List Addr->Frag) (fun J J=>[]) (fun o J ih n l=>match l with
 |[]=>[]
 |a::l'=>match bQ a n with|true=>(a,o)::ih (n+1) l'|false=>ih (n+1) (a::l')) os n l
def m0:ai:=vs "__main__" 164
def m1:ai:=vs "gluepage.errors" 194
def m2:ai:=vs "gluepage.scaled" 320
def m3:ai:=vs "gluepage.nodes" 372
def m4:ai:=vs "gluepage.boxops" 651
def m5:ai:=vs "gluepage.packing" 671
def m6:ai:=vs "gluepage.dvi" 716
def m7:ai:=vs "gluepage.fonts" 1150
def m8:ai:=vs "gluepage.dviread" 1425
def m9:ai:=vs "law_sq0080_02" 1721
def pp:Obj:=om (.type "builtin_function_or_method") (fs [(.builtin "type.__prepare__"),(.type "type")])
def xc(P:aq)(a t:Nat)(n:String)(l:Nat):List Obj:=[om (.type "tuple") (sq [(r 39)] 0),pp,om (.type "dict") (di [e P "__module__" (t+7) m1,e P "__qualname__" (t+9) (vs n (t+8)),e P "__firstlineno__" (t+11) (vi l (t+10)),e P "__static_attributes__" (t+12) (r (a+7))] 4),t0,f0,co n n (t+2) l 0 0 (a+3) false (a+4) [.none,.none,.none] (t+5),os (.type "frame") .plain [some (r (a+5)),some (r 3),some (r (a+2)),none,some m1,none,some (r 0)],t0,om (.type "dict") (di [e P "__module__" (t+7) m1,e P "__firstlineno__" (t+11) (vi l (t+10)),e P "__static_attributes__" (t+12) (r (a+7)),e P "__doc__" (t+13) .none] 2),os (.type "type") (cl n [(r 39)] [(r (a+9)),(r 39),(.type "ValueError"),(.type "Exception"),(.type "BaseException"),(.type "object")] (a+8) n true [] [] false none false) [some (r a),none,some (vs n t),some (vs n (t+8)),some (.builtin "ValueError.__new__"),some (.bool true)],om (.type "super") (fs [(r (a+9)),(r (a+9)),(r (a+9))]),om (.type "builtin_function_or_method") (fs [(.builtin "object.__init_subclass__"),(r (a+9))])]
def cA(P:aq)(a t:Nat)(n:String)(m:ai)(L:Nat)(ms:List DictEntry)(k:Nat)(ln:List ai):List Obj:=[t0,pp,om (.type "dict") (di ([e P "__module__" (t+7) m,e P "__qualname__" (t+9) (vs n (t+8)),e P "__firstlineno__" (t+11) (vi L (t+10))]++ms) k),t0,om .none (fs ln),co n n (t+2) L 0 0 (a+3) false (a+4) [.none,.none,.none] (t+5),os (.type "frame") .plain [some (r (a+5)),some (r 3),some (r (a+2)),none,some m,none,some (r 0)]]
def cB(P:aq)(b t u:Nat)(n:String)(m:ai)(L:Nat)(ms:List DictEntry):List Obj:=[om (.type "dict") (di ([e P "__module__" (t+7) m,e P "__firstlineno__" (t+11) (vi L (t+10))]++(ms++[e P "__dict__" (u+1) (r (b+2)),e P "__weakref__" (u+3) (r (b+3)),e P "__doc__" (u+4) .none])) 4),os (.type "type") (cl n [(.type "object")] [(r (b+1)),(.type "object")] b n true [] [] false none false) [none,none,some (vs n t),some (vs n (t+8)),some (.builtin "object.__new__"),some (.bool true)],om (.type "getset_descriptor") (fs [(vs "__dict__" u),(r (b+1)),(.builtin "function.__dict__"),(.builtin "function.__dict__#set")]),om (.type "getset_descriptor") (fs [(vs "__weakref__" (u+2)),(r (b+1)),(.builtin "ExceptionGroup.__weakref__"),.none]),om (.type "super") (fs [(r (b+1)),(r (b+1)),(r (b+1))]),om (.type "builtin_function_or_method") (fs [(.builtin "object.__init_subclass__"),(r (b+1))])]
def G0(P:aq):List Obj:=[boot_o_0 P,boot_o_1 P,boot_o_2 P,boot_o_3 P,boot_o_4 P,boot_o_5 P,boot_o_6 P,boot_o_7 P,boot_o_8 P,boot_o_9 P,boot_o_10 P,t0,f0,co "<module>" "<module>" 182 1 0 0 11 false 12 [.none,.none,.none] 185,os (.type "frame") .plain [some (r 13),some (r 3),some (r 3),none,some m0,none,some (r 0)]]
def Hp(P:aq):bp:=⟨⟨G0 P⟩,{}⟩
def T0(P:aq):BT:=tu .nil [] 0 (G0 P)
theorem pre(w:aP)(os:bf):topGo eO pw w 11 (some (r 6)) 12 ⟨fC w.params,#[],kM,lK,os⟩ (topStub pw)=some (⟨Hp w.params,#[],{},187,os⟩,⟨denote eO cE,cE,⟨0,0,0,0⟩,UK⟩):=by rw[PySem.W.Fast.te15667345088766844465,PySem.W.Fast.te14364793385576792824,PySem.W.Fast.te11892475500146522536];kernel_rfl
theorem blk(w:aP)(os:bf):segRun eO pw w 11 (some (r 6)) 1 1 ⟨Hp w.params,#[],{},187,os⟩ (blockOf bE Ja cE ⟨0,0,0,0⟩ UK)=some (.next,(S T0 15 187 w os).abs,cE,⟨0,0,0,0⟩):=by rw[PySem.W.Fast.te14374325043358763698,PySem.W.Fast.te14364793385576792824];kernel_rfl
def o5(P:aq):Obj:=dd (boot_o_3 P) [(0,e P "__name__" 165 m1)] [e P "_wall" 193 (r 21),e P "PageError" 223 (r 39)] 11
def o6(P:aq):Obj:=om .none (fs [(vi 1 0),(vi 0 0),(r 20),(vi 5 0),(vi 0 0),(r 27)])
def G1(P:aq):List Obj:=qE 15 187 (st 0) "_wall" "_wall" 1 1 ["k"] .none m0++[om (.type "tuple") (sq [(.type "ValueError")] 0),om (.type "builtin_function_or_method") (fs [(.builtin "type.__prepare__"),(.type "type")]),om (.type "dict") (di [e P "__module__" 203 m1,e P "__qualname__" 205 (vs "PageError" 204),e P "__firstlineno__" 207 (vi 5 206),e P "__init__" 216 (r 36),e P "__static_attributes__" 218 (r 37)] 5),t0,om .none (fs [(vi 7 0),(vi 4 0),(r 35)]),co "PageError" "PageError" 198 5 0 0 25 false 26 [.none,.none,.none] 201,os (.type "frame") .plain [some (r 27),some (r 3),some (r 24),none,some m1,none,some (r 0)],om (.type "tuple") (sq [(vs "" 208)] 0)]++qE 30 209 (sm 2 0) "__init__" "PageError.__init__" 7 2 ["self","reason"] (r 29) m1++[om (.type "tuple") (sq [(vs "reason" 217)] 0),om (.type "dict") (di [e P "__module__" 203 m1,e P "__firstlineno__" 207 (vi 5 206),e P "__init__" 216 (r 36),e P "__static_attributes__" 218 (r 37),e P "__weakref__" 220 (r 40),e P "__doc__" 221 .none] 3),os (.type "type") (cl "PageError" [(.type "ValueError")] [(r 39),(.type "ValueError"),(.type "Exception"),(.type "BaseException"),(.type "object")] 38 "PageError" true [] [] false none false) [some (r 22),none,some (vs "PageError" 196),some (vs "PageError" 204),some (.builtin "ValueError.__new__"),some (.bool true)],om (.type "getset_descriptor") (fs [(vs "__weakref__" 219),(r 39),(.builtin "ExceptionGroup.__weakref__"),.none]),om (.type "super") (fs [(r 39),(r 39),(r 39)]),om (.type "builtin_function_or_method") (fs [(.builtin "object.__init_subclass__"),(r 39)])]
def T1(P:aq):BT:=tu (T0 P) [(3,o5 P),(12,o6 P)] 15 (G1 P)
theorem g0(w:aP)(os:bf):rQ w 259 (S T0 15 187 w os) (th (sg 0 3) ⟨0,0,0,0⟩)=some (.next,S T1 43 224 w os,cE,⟨5,0,8,28⟩):=by kernel_rfl
def o35(P:aq):Obj:=dd (o5 P) [] [e P "BadArgument" 239 (r 52)] 12
def o36(P:aq):Obj:=om .none (fs [(vi 1 0),(vi 0 0),(r 20),(vi 5 0),(vi 0 0),(r 27),(vi 9 0),(vi 0 0),(r 48)])
def o37(P:aq):Obj:=os (.type "type") (cl "PageError" [(.type "ValueError")] [(r 39),(.type "ValueError"),(.type "Exception"),(.type "BaseException"),(.type "object")] 38 "PageError" true [] [(r 52)] false none false) [some (r 22),none,some (vs "PageError" 196),some (vs "PageError" 204),some (.builtin "ValueError.__new__"),some (.bool true)]
def G2(P:aq):List Obj:=xc P 43 224 "BadArgument" 9
def T2(P:aq):BT:=tu (T1 P) [(3,o35 P),(12,o36 P),(39,o37 P)] 43 (G2 P)
theorem g1(w:aP)(os:bf):rQ w 214 (S T1 43 224 w os) (th (sg 3 1) ⟨5,0,8,28⟩)=some (.next,S T2 55 240 w os,cE,⟨9,0,10,8⟩):=by kernel_rfl
def o50(P:aq):Obj:=dd (o35 P) [] [e P "Overflow" 255 (r 64)] 13
def o51(P:aq):Obj:=om .none (fs [(vi 1 0),(vi 0 0),(r 20),(vi 5 0),(vi 0 0),(r 27),(vi 9 0),(vi 0 0),(r 48),(vi 11 0),(vi 0 0),(r 60)])
def o52(P:aq):Obj:=os (.type "type") (cl "PageError" [(.type "ValueError")] [(r 39),(.type "ValueError"),(.type "Exception"),(.type "BaseException"),(.type "object")] 38 "PageError" true [] [(r 52),(r 64)] false none false) [some (r 22),none,some (vs "PageError" 196),some (vs "PageError" 204),some (.builtin "ValueError.__new__"),some (.bool true)]
def G3(P:aq):List Obj:=xc P 55 240 "Overflow" 11
def T3(P:aq):BT:=tu (T2 P) [(3,o50 P),(12,o51 P),(39,o52 P)] 55 (G3 P)
theorem g2(w:aP)(os:bf):rQ w 214 (S T2 55 240 w os) (th (sg 4 1) ⟨9,0,10,8⟩)=some (.next,S T3 67 256 w os,cE,⟨11,0,12,8⟩):=by kernel_rfl
def o65(P:aq):Obj:=dd (o50 P) [] [e P "BadFont" 271 (r 76)] 14
def o66(P:aq):Obj:=om .none (fs [(vi 1 0),(vi 0 0),(r 20),(vi 5 0),(vi 0 0),(r 27),(vi 9 0),(vi 0 0),(r 48),(vi 11 0),(vi 0 0),(r 60),(vi 13 0),(vi 0 0),(r 72)])
def o67(P:aq):Obj:=os (.type "type") (cl "PageError" [(.type "ValueError")] [(r 39),(.type "ValueError"),(.type "Exception"),(.type "BaseException"),(.type "object")] 38 "PageError" true [] [(r 52),(r 64),(r 76)] false none false) [some (r 22),none,some (vs "PageError" 196),some (vs "PageError" 204),some (.builtin "ValueError.__new__"),some (.bool true)]
def G4(P:aq):List Obj:=xc P 67 256 "BadFont" 13
def T4(P:aq):BT:=tu (T3 P) [(3,o65 P),(12,o66 P),(39,o67 P)] 67 (G4 P)
theorem g3(w:aP)(os:bf):rQ w 214 (S T3 67 256 w os) (th (sg 5 1) ⟨11,0,12,8⟩)=some (.next,S T4 79 272 w os,cE,⟨13,0,14,8⟩):=by kernel_rfl
def o80(P:aq):Obj:=dd (o65 P) [] [e P "BadDevice" 287 (r 88)] 15
def o81(P:aq):Obj:=om .none (fs [(vi 1 0),(vi 0 0),(r 20),(vi 5 0),(vi 0 0),(r 27),(vi 9 0),(vi 0 0),(r 48),(vi 11 0),(vi 0 0),(r 60),(vi 13 0),(vi 0 0),(r 72),(vi 15 0),(vi 0 0),(r 84)])
def o82(P:aq):Obj:=os (.type "type") (cl "PageError" [(.type "ValueError")] [(r 39),(.type "ValueError"),(.type "Exception"),(.type "BaseException"),(.type "object")] 38 "PageError" true [] [(r 52),(r 64),(r 76),(r 88)] false none false) [some (r 22),none,some (vs "PageError" 196),some (vs "PageError" 204),some (.builtin "ValueError.__new__"),some (.bool true)]
def G5(P:aq):List Obj:=xc P 79 272 "BadDevice" 15
def T5(P:aq):BT:=tu (T4 P) [(3,o80 P),(12,o81 P),(39,o82 P)] 79 (G5 P)
theorem g4(w:aP)(os:bf):rQ w 214 (S T4 79 272 w os) (th (sg 6 1) ⟨13,0,14,8⟩)=some (.next,S T5 91 288 w os,cE,⟨15,0,16,8⟩):=by kernel_rfl
def o95(P:aq):Obj:=dd (o80 P) [] [e P "TooDeep" 303 (r 100)] 16
def o96(P:aq):Obj:=df (o81 P) [] [(vi 17 0),(vi 0 0),(r 96)]
def o97(P:aq):Obj:=os (.type "type") (cl "PageError" [(.type "ValueError")] [(r 39),(.type "ValueError"),(.type "Exception"),(.type "BaseException"),(.type "object")] 38 "PageError" true [] [(r 52),(r 64),(r 76),(r 88),(r 100)] false none false) [some (r 22),none,some (vs "PageError" 196),some (vs "PageError" 204),some (.builtin "ValueError.__new__"),some (.bool true)]
def G6(P:aq):List Obj:=xc P 91 288 "TooDeep" 17
def T6(P:aq):BT:=tu (T5 P) [(3,o95 P),(12,o96 P),(39,o97 P)] 91 (G6 P)
theorem g5(w:aP)(os:bf):rQ w 214 (S T5 91 288 w os) (th (sg 7 1) ⟨15,0,16,8⟩)=some (.next,S T6 103 304 w os,cE,⟨17,0,18,8⟩):=by kernel_rfl
def YG(P:aq):Obj:=dd (o95 P) [(0,e P "__name__" 165 m2)] [e P "TooMuch" 319 (r 112),e P "MAX_DIMEN" 327 (vi 1073741823 326),e P "MAX_NUMBER" 333 (vi 2147483647 332),e P "is_whole" 342 (r 121),e P "check_whole" 349 (r 128),e P "check_number" 356 (r 135),e P "check_dimen" 363 (r 142)] 23
def YH(P:aq):Obj:=df (o96 P) [] [(vi 19 0),(vi 0 0),(r 108),(vi 24 0),(vi 0 0),(r 120),(vi 26 0),(vi 0 0),(r 127),(vi 30 0),(vi 0 0),(r 134),(vi 34 0),(vi 0 0),(r 141)]
def YI(P:aq):Obj:=os (.type "type") (cl "PageError" [(.type "ValueError")] [(r 39),(.type "ValueError"),(.type "Exception"),(.type "BaseException"),(.type "object")] 38 "PageError" true [] [(r 52),(r 64),(r 76),(r 88),(r 100),(r 112)] false none false) [some (r 22),none,some (vs "PageError" 196),some (vs "PageError" 204),some (.builtin "ValueError.__new__"),some (.bool true)]
def G7(P:aq):List Obj:=xc P 103 304 "TooMuch" 19++qE 115 334 (st 12) "is_whole" "is_whole" 24 3 ["value","low","high"] .none m2++qE 122 343 (st 13) "check_whole" "check_whole" 26 1 ["value"] .none m2++qE 129 350 (st 14) "check_number" "check_number" 30 1 ["value"] .none m2++qE 136 357 (st 15) "check_dimen" "check_dimen" 34 1 ["value"] .none m2
def T7(P:aq):BT:=tu (T6 P) [(3,YG P),(12,YH P),(39,YI P)] 103 (G7 P)
theorem g6(w:aP)(os:bf):rQ w 383 (S T6 103 304 w os) (th (sg 8 8) ⟨17,0,18,8⟩)=some (.next,S T7 143 364 w os,cE,⟨34,0,37,16⟩):=by kernel_rfl
def YJ(P:aq):Obj:=dd (YG P) [(0,e P "__name__" 165 m3)] [e P "rounded" 371 (r 149),e P "CHAR" 382 (vi 0 374),e P "LIGATURE" 383 (vi 1 375),e P "HBOX" 384 (vi 2 376),e P "VBOX" 385 (vi 3 377),e P "RULE" 386 (vi 4 378),e P "KERN" 387 (vi 5 379),e P "GLUE" 388 (vi 6 380),e P "PENALTY" 389 (vi 7 381),e P "DISC" 397 (vi 8 390),e P "MARK" 398 (vi 9 391),e P "INSERT" 399 (vi 10 392),e P "ADJUST" 400 (vi 11 393),e P "MATH" 401 (vi 12 394),e P "SPECIAL" 402 (vi 13 395),e P "UNSET" 403 (vi 14 396)] 39
def YK(P:aq):Obj:=df (YH P) [] [(vi 38 0),(vi 0 0),(r 148)]
def G8(P:aq):List Obj:=qE 143 364 (st 16) "rounded" "rounded" 38 2 ["number","by"] .none m2++[om (.type "tuple") (sq [(vi 0 374),(vi 1 375),(vi 2 376),(vi 3 377),(vi 4 378),(vi 5 379),(vi 6 380),(vi 7 381)] 0),om (.type "tuple_iterator") (fs [.none,(vi 8 0)]),t0,om (.type "StopIteration") (fs [(r 152),.none,.none,.none,(.bool false),.none]),om (.type "tuple") (sq [(vi 8 390),(vi 9 391),(vi 10 392),(vi 11 393),(vi 12 394),(vi 13 395),(vi 14 396)] 0),om (.type "tuple_iterator") (fs [.none,(vi 7 0)]),t0,om (.type "StopIteration") (fs [(r 156),.none,.none,.none,(.bool false),.none])]
def T8(P:aq):BT:=tu (T7 P) [(3,YJ P),(12,YK P)] 143 (G8 P)
theorem PE(w:aP)(os:bf):rQ (w.withFollow "special-get-raises" false) 368 (S T7 143 364 (w.withFollow "special-get-raises" false) os) (th (sg 16 4) ⟨34,0,37,16⟩)=some (.next,S T8 158 404 (w.withFollow "special-get-raises" false) os,cE,⟨46,43,46,48⟩):=by kernel_rfl
theorem UL(w:aP)(os:bf):rQ (w.withFollow "special-get-raises" true) 368 (S T7 143 364 (w.withFollow "special-get-raises" true) os) (th (sg 16 4) ⟨34,0,37,16⟩)=some (.next,S T8 158 404 (w.withFollow "special-get-raises" true) os,cE,⟨46,43,46,48⟩):=by kernel_rfl
theorem g7(w:aP)(os:bf):rQ w 368 (S T7 143 364 w os) (th (sg 16 4) ⟨34,0,37,16⟩)=some (.next,S T8 158 404 w os,cE,⟨46,43,46,48⟩):=jG "special-get-raises" (P:=fun w=>∀os,rQ w 368 (S T7 143 364 w os) (th (sg 16 4) ⟨34,0,37,16⟩)=some (.next,S T8 158 404 w os,cE,⟨46,43,46,48⟩)) PE UL w os
def YL(P:aq):Obj:=dd (YJ P) [] [e P "NATURAL" 407 (vi 0 404),e P "STRETCHED" 408 (vi 1 405),e P "SHRUNK" 409 (vi 2 406),e P "FONT_KERN" 414 (vi 0 410),e P "EXPLICIT" 415 (vi 1 411),e P "ACCENT_KERN" 416 (vi 2 412),e P "MU_KERN" 417 (vi 3 413),e P "PLAIN" 425 (vi 0 418),e P "ALEADERS" 426 (vi 1 419),e P "CLEADERS" 427 (vi 2 420),e P "XLEADERS" 428 (vi 3 421),e P "MU_SKIP" 429 (vi 4 422),e P "NONSCRIPT" 430 (vi 5 423),e P "NAMED" 431 (vi 100 424)] 53
def G9(P:aq):List Obj:=[om (.type "tuple") (sq [(vi 0 404),(vi 1 405),(vi 2 406)] 0),om (.type "tuple_iterator") (fs [.none,(vi 3 0)]),t0,om (.type "StopIteration") (fs [(r 160),.none,.none,.none,(.bool false),.none]),om (.type "tuple") (sq [(vi 0 410),(vi 1 411),(vi 2 412),(vi 3 413)] 0),om (.type "tuple_iterator") (fs [.none,(vi 4 0)]),t0,om (.type "StopIteration") (fs [(r 164),.none,.none,.none,(.bool false),.none]),om (.type "tuple") (sq [(vi 0 418),(vi 1 419),(vi 2 420),(vi 3 421),(vi 4 422),(vi 5 423),(vi 100 424)] 0),om (.type "tuple_iterator") (fs [.none,(vi 7 0)]),t0,om (.type "StopIteration") (fs [(r 168),.none,.none,.none,(.bool false),.none])]
def T9(P:aq):BT:=tu (T8 P) [(3,YL P)] 158 (G9 P)
theorem PG(w:aP)(os:bf):rQ (w.withFollow "special-get-raises" false) 340 (S T8 158 404 (w.withFollow "special-get-raises" false) os) (th (sg 20 3) ⟨46,43,46,48⟩)=some (.next,S T9 170 432 (w.withFollow "special-get-raises" false) os,cE,⟨49,57,49,62⟩):=by kernel_rfl
theorem UM(w:aP)(os:bf):rQ (w.withFollow "special-get-raises" true) 340 (S T8 158 404 (w.withFollow "special-get-raises" true) os) (th (sg 20 3) ⟨46,43,46,48⟩)=some (.next,S T9 170 432 (w.withFollow "special-get-raises" true) os,cE,⟨49,57,49,62⟩):=by kernel_rfl
theorem g8(w:aP)(os:bf):rQ w 340 (S T8 158 404 w os) (th (sg 20 3) ⟨46,43,46,48⟩)=some (.next,S T9 170 432 w os,cE,⟨49,57,49,62⟩):=jG "special-get-raises" (P:=fun w=>∀os,rQ w 340 (S T8 158 404 w os) (th (sg 20 3) ⟨46,43,46,48⟩)=some (.next,S T9 170 432 w os,cE,⟨49,57,49,62⟩)) PG UM w os
def YM(P:aq):Obj:=dd (YL P) [] [e P "FOR_DEVICE" 436 (vi 0 432),e P "WRITING" 437 (vi 1 433),e P "OPENING" 438 (vi 2 434),e P "CLOSING" 439 (vi 3 435),e P "check_code" 446 (r 180),e P "Char" 478 (r 197)] 59
def YN(P:aq):Obj:=df (YK P) [] [(vi 51 0),(vi 0 0),(r 179),(vi 55 0),(vi 0 0),(r 186)]
def M0(P:aq):List DictEntry:=[e P "kind" 459 (vi 0 374),e P "__init__" 468 (r 194),e P "__static_attributes__" 471 (r 195)]
def G10(P:aq):List Obj:=[om (.type "tuple") (sq [(vi 0 432),(vi 1 433),(vi 2 434),(vi 3 435)] 0),om (.type "tuple_iterator") (fs [.none,(vi 4 0)]),t0,om (.type "StopIteration") (fs [(r 172),.none,.none,.none,(.bool false),.none])]++qE 174 440 (st 24) "check_code" "check_code" 51 1 ["code"] .none m3++cA P 181 447 "Char" m3 55 (M0 P) 6 [(vi 58 0),(vi 4 0),(r 193)]++qE 188 460 (sm 25 1) "__init__" "Char.__init__" 58 3 ["self","font","code"] .none m3++[om (.type "tuple") (sq [(vs "code" 469),(vs "font" 470)] 0)]++cB P 196 447 472 "Char" m3 55 (M0 P)
def Vl(P:aq):BT:=tu (T9 P) [(3,YM P),(12,YN P)] 170 (G10 P)
theorem PH(w:aP)(os:bf):rQ (w.withFollow "special-get-raises" false) 368 (S T9 170 432 (w.withFollow "special-get-raises" false) os) (th (sg 23 3) ⟨49,57,49,62⟩)=some (.next,S Vl 202 479 (w.withFollow "special-get-raises" false) os,cE,⟨55,0,60,36⟩):=by kernel_rfl
theorem UN(w:aP)(os:bf):rQ (w.withFollow "special-get-raises" true) 368 (S T9 170 432 (w.withFollow "special-get-raises" true) os) (th (sg 23 3) ⟨49,57,49,62⟩)=some (.next,S Vl 202 479 (w.withFollow "special-get-raises" true) os,cE,⟨55,0,60,36⟩):=by kernel_rfl
theorem g9(w:aP)(os:bf):rQ w 368 (S T9 170 432 w os) (th (sg 23 3) ⟨49,57,49,62⟩)=some (.next,S Vl 202 479 w os,cE,⟨55,0,60,36⟩):=jG "special-get-raises" (P:=fun w=>∀os,rQ w 368 (S T9 170 432 w os) (th (sg 23 3) ⟨49,57,49,62⟩)=some (.next,S Vl 202 479 w os,cE,⟨55,0,60,36⟩)) PH UN w os
def YO(P:aq):Obj:=dd (YM P) [] [e P "Box" 519 (r 218)] 60
def YQ(P:aq):Obj:=df (YN P) [] [(vi 61 0),(vi 0 0),(r 207)]
def M1(P:aq):List DictEntry:=[e P "__init__" 502 (r 215),e P "__static_attributes__" 512 (r 216)]
def G11(P:aq):List Obj:=cA P 202 479 "Box" m3 61 (M1 P) 5 [(vi 63 0),(vi 4 0),(r 214)]++qE 209 491 (sm 26 0) "__init__" "Box.__init__" 63 6 ["self","kind","width","height","depth","items"] .none m3++[om (.type "tuple") (sq [(vs "depth" 503),(vs "height" 504),(vs "items" 505),(vs "kind" 506),(vs "order" 507),(vs "ratio" 508),(vs "shift" 509),(vs "sign" 510),(vs "width" 511)] 0)]++cB P 217 479 513 "Box" m3 61 (M1 P)
def T11(P:aq):BT:=tu (Vl P) [(3,YO P),(12,YQ P)] 202 (G11 P)
theorem g10(w:aP)(os:bf):rQ w 235 (S Vl 202 479 w os) (th (sg 26 1) ⟨55,0,60,36⟩)=some (.next,S T11 223 520 w os,cE,⟨61,0,74,27⟩):=by kernel_rfl
def YR(P:aq):Obj:=dd (YO P) [] [e P "Rule" 554 (r 239)] 61
def YS(P:aq):Obj:=df (YQ P) [] [(vi 75 0),(vi 0 0),(r 228)]
def M2(P:aq):List DictEntry:=[e P "kind" 532 (vi 4 378),e P "__init__" 543 (r 236),e P "__static_attributes__" 547 (r 237)]
def G12(P:aq):List Obj:=cA P 223 520 "Rule" m3 75 (M2 P) 6 [(vi 78 0),(vi 4 0),(r 235)]++qE 230 533 (sm 27 1) "__init__" "Rule.__init__" 78 4 ["self","width","height","depth","size"] .none m3++[om (.type "tuple") (sq [(vs "depth" 544),(vs "height" 545),(vs "width" 546)] 0)]++cB P 238 520 548 "Rule" m3 75 (M2 P)
def T12(P:aq):BT:=tu (T11 P) [(3,YR P),(12,YS P)] 223 (G12 P)
theorem g11(w:aP)(os:bf):rQ w 241 (S T11 223 520 w os) (th (sg 27 1) ⟨61,0,74,27⟩)=some (.next,S T12 244 555 w os,cE,⟨75,0,84,26⟩):=by kernel_rfl
def YT(P:aq):Obj:=dd (YR P) [] [e P "Kern" 586 (r 260)] 62
def YU(P:aq):Obj:=df (YS P) [] [(vi 85 0),(vi 0 0),(r 249)]
def M3(P:aq):List DictEntry:=[e P "kind" 567 (vi 5 379),e P "__init__" 576 (r 257),e P "__static_attributes__" 579 (r 258)]
def G13(P:aq):List Obj:=cA P 244 555 "Kern" m3 85 (M3 P) 6 [(vi 88 0),(vi 4 0),(r 256)]++qE 251 568 (sm 28 1) "__init__" "Kern.__init__" 88 3 ["self","width","sort"] .none m3++[om (.type "tuple") (sq [(vs "sort" 577),(vs "width" 578)] 0)]++cB P 259 555 580 "Kern" m3 85 (M3 P)
def T13(P:aq):BT:=tu (T12 P) [(3,YT P),(12,YU P)] 244 (G13 P)
theorem g12(w:aP)(os:bf):rQ w 238 (S T12 244 555 w os) (th (sg 28 1) ⟨75,0,84,26⟩)=some (.next,S T13 265 587 w os,cE,⟨85,0,92,24⟩):=by kernel_rfl
def YV(P:aq):Obj:=dd (YT P) [(0,e P "__name__" 165 m4)] [e P "Special" 618 (r 281),e P "width_of" 624 (r 290),e P "height_of" 630 (r 295),e P "depth_of" 636 (r 300),e P "line_height" 643 (r 307),e P "line_depth" 650 (r 314)] 68
def YW(P:aq):Obj:=df (YU P) [] [(vi 93 0),(vi 0 0),(r 270),(vi 104 0),(vi 0 0),(r 289),(vi 117 0),(vi 0 0),(r 294),(vi 130 0),(vi 0 0),(r 299),(vi 143 0),(vi 0 0),(r 306),(vi 147 0),(vi 0 0),(r 313)]
def M4(P:aq):List DictEntry:=[e P "kind" 599 (vi 13 395),e P "sort" 600 (vi 0 432),e P "__init__" 609 (r 278),e P "__static_attributes__" 611 (r 279)]
def G14(P:aq):List Obj:=cA P 265 587 "Special" m3 93 (M4 P) 7 [(vi 97 0),(vi 4 0),(r 277)]++qE 272 601 (sm 29 2) "__init__" "Special.__init__" 97 2 ["self","octets","octet"] .none m3++[om (.type "tuple") (sq [(vs "octets" 610)] 0)]++cB P 280 587 612 "Special" m3 93 (M4 P)++Ds 286 619 (st 30) "width_of" "width_of" 104 1 .none m3++Ds 291 625 (st 31) "height_of" "height_of" 117 1 .none m3++Ds 296 631 (st 32) "depth_of" "depth_of" 130 1 .none m3++qE 301 637 (st 33) "line_height" "line_height" 143 1 ["node"] .none m3++qE 308 644 (st 34) "line_depth" "line_depth" 147 1 ["node"] .none m3
def T14(P:aq):BT:=tu (T13 P) [(3,YV P),(12,YW P)] 265 (G14 P)
theorem g13(w:aP)(os:bf):rQ w 395 (S T13 265 587 w os) (th (sg 29 7) ⟨85,0,92,24⟩)=some (.next,S T14 315 653 w os,cE,⟨151,0,151,8⟩):=by kernel_rfl
def YX(P:aq):Obj:=dd (YV P) [(0,e P "__name__" 165 m6)] [e P "MOST_COPIES" 654 (vi 2000 653),e P "leader_places" 660 (r 319),e P "with_rule_sizes" 670 (r 326),e P "check_column" 680 (r 333),e P "flex" 688 (r 340),e P "set_part" 696 (r 347),e P "part_size" 704 (r 354),e P "places" 715 (r 361)] 76
def YY(P:aq):Obj:=df (YW P) [] [(vi 153 0),(vi 0 0),(r 318),(vi 172 0),(vi 0 0),(r 325),(vi 179 0),(vi 0 0),(r 332),(vi 183 0),(vi 0 0),(r 339),(vi 189 0),(vi 0 0),(r 346),(vi 191 0),(vi 0 0),(r 353),(vi 195 0),(vi 0 0),(r 360)]
def G15(P:aq):List Obj:=Ds 315 655 (st 37) "leader_places" "leader_places" 153 5 .none m4++qE 320 661 (st 38) "with_rule_sizes" "with_rule_sizes" 172 2 ["rule","box","height","width"] .none m4++qE 327 673 (st 40) "check_column" "check_column" 179 1 ["items","node"] .none m5++qE 334 681 (st 41) "flex" "flex" 183 2 ["box","glue"] .none m5++qE 341 689 (st 42) "set_part" "set_part" 189 2 ["box","flexed"] .none m5++qE 348 697 (st 43) "part_size" "part_size" 191 2 ["box","node"] .none m5++qE 355 705 (st 44) "places" "places" 195 1 ["box","found","fixed","flexed","node"] .none m5
def Vm(P:aq):BT:=tu (T14 P) [(3,YX P),(12,YY P)] 315 (G15 P)
theorem g14(w:aP)(os:bf):rQ w 239 (S T14 315 653 w os) (th (sg 36 10) ⟨151,0,151,8⟩)=some (.next,S Vm 362 718 w os,cE,⟨208,0,208,8⟩):=by kernel_rfl
def YZ(P:aq):Obj:=dd (YX P) [] [e P "SET_1" 727 (vi 128 718),e P "SET_RULE" 728 (vi 132 719),e P "PUT_1" 729 (vi 133 720),e P "PUT_RULE" 730 (vi 137 721),e P "NO_OPERATION" 731 (vi 138 722),e P "PAGE_BEGIN" 732 (vi 139 723),e P "PAGE_END" 733 (vi 140 724),e P "PUSH" 734 (vi 141 725),e P "POP" 735 (vi 142 726),e P "RIGHT_1" 745 (vi 143 736),e P "DOWN_1" 746 (vi 157 737),e P "FONT_0" 747 (vi 171 738),e P "FONT_1" 748 (vi 235 739),e P "SPECIAL_1" 749 (vi 239 740),e P "FONT_DEF_1" 750 (vi 243 741),e P "PREAMBLE" 751 (vi 247 742),e P "POSTAMBLE" 752 (vi 248 743),e P "POST_POST" 753 (vi 249 744)] 94
def G16(P:aq):List Obj:=[om (.type "tuple") (sq [(vi 128 718),(vi 132 719),(vi 133 720),(vi 137 721),(vi 138 722),(vi 139 723),(vi 140 724),(vi 141 725),(vi 142 726)] 0),om (.type "tuple_iterator") (fs [.none,(vi 9 0)]),t0,om (.type "StopIteration") (fs [(r 364),.none,.none,.none,(.bool false),.none]),om (.type "tuple") (sq [(vi 143 736),(vi 157 737),(vi 171 738),(vi 235 739),(vi 239 740),(vi 243 741),(vi 247 742),(vi 248 743),(vi 249 744)] 0),om (.type "tuple_iterator") (fs [.none,(vi 9 0)]),t0,om (.type "StopIteration") (fs [(r 368),.none,.none,.none,(.bool false),.none])]
def PJ(P:aq):BT:=tu (Vm P) [(3,YZ P)] 362 (G16 P)
theorem MD(w:aP)(os:bf):rQ (w.withFollow "special-get-raises" false) 383 (S Vm 362 718 (w.withFollow "special-get-raises" false) os) (th (sg 46 2) ⟨208,0,208,8⟩)=some (.next,S PJ 370 754 (w.withFollow "special-get-raises" false) os,cE,⟨210,77,210,86⟩):=by kernel_rfl
theorem PK(w:aP)(os:bf):rQ (w.withFollow "special-get-raises" true) 383 (S Vm 362 718 (w.withFollow "special-get-raises" true) os) (th (sg 46 2) ⟨208,0,208,8⟩)=some (.next,S PJ 370 754 (w.withFollow "special-get-raises" true) os,cE,⟨210,77,210,86⟩):=by kernel_rfl
theorem g15(w:aP)(os:bf):rQ w 383 (S Vm 362 718 w os) (th (sg 46 2) ⟨208,0,208,8⟩)=some (.next,S PJ 370 754 w os,cE,⟨210,77,210,86⟩):=jG "special-get-raises" (P:=fun w=>∀os,rQ w 383 (S Vm 362 718 w os) (th (sg 46 2) ⟨208,0,208,8⟩)=some (.next,S PJ 370 754 w os,cE,⟨210,77,210,86⟩)) MD PK w os
def Y0(P:aq):Obj:=dd (YZ P) [] [e P "FILLING" 756 (vi 223 754),e P "IDENTITY" 757 (vi 2 755),e P "NUMERATOR" 761 (vi 25400000 758),e P "DENOMINATOR" 762 (vi 473628672 759),e P "MAGNIFICATION" 763 (vi 1000 760),e P "COMMENT_TEXT" 765 (vs "gluepage" 764),e P "DEEPEST_BOXES" 767 (vi 60 766),e P "FIRST_SET" 772 (vi 5 768),e P "SECOND_SET" 773 (vi 10 769),e P "FIRST_AGAIN" 774 (vi 4 770),e P "SECOND_AGAIN" 775 (vi 9 771)] 105
def G17(P:aq):List Obj:=[om (.type "tuple") (sq [(vi 223 754),(vi 2 755)] 0),om (.type "tuple_iterator") (fs [.none,(vi 2 0)]),t0,om (.type "StopIteration") (fs [(r 372),.none,.none,.none,(.bool false),.none]),om (.type "tuple") (sq [(vi 25400000 758),(vi 473628672 759),(vi 1000 760)] 0),om (.type "tuple_iterator") (fs [.none,(vi 3 0)]),t0,om (.type "StopIteration") (fs [(r 376),.none,.none,.none,(.bool false),.none]),om (.type "tuple") (sq [(vi 5 768),(vi 10 769),(vi 4 770),(vi 9 771)] 0),om (.type "tuple_iterator") (fs [.none,(vi 4 0)]),t0,om (.type "StopIteration") (fs [(r 380),.none,.none,.none,(.bool false),.none])]
def PL(P:aq):BT:=tu (PJ P) [(3,Y0 P)] 370 (G17 P)
theorem ME(w:aP)(os:bf):rQ (w.withFollow "special-get-raises" false) 268 (S PJ 370 754 (w.withFollow "special-get-raises" false) os) (th (sg 48 5) ⟨210,77,210,86⟩)=some (.next,S PL 382 776 (w.withFollow "special-get-raises" false) os,cE,⟨215,36,215,48⟩):=by kernel_rfl
theorem PM(w:aP)(os:bf):rQ (w.withFollow "special-get-raises" true) 268 (S PJ 370 754 (w.withFollow "special-get-raises" true) os) (th (sg 48 5) ⟨210,77,210,86⟩)=some (.next,S PL 382 776 (w.withFollow "special-get-raises" true) os,cE,⟨215,36,215,48⟩):=by kernel_rfl
theorem g16(w:aP)(os:bf):rQ w 268 (S PJ 370 754 w os) (th (sg 48 5) ⟨210,77,210,86⟩)=some (.next,S PL 382 776 w os,cE,⟨215,36,215,48⟩):=jG "special-get-raises" (P:=fun w=>∀os,rQ w 268 (S PJ 370 754 w os) (th (sg 48 5) ⟨210,77,210,86⟩)=some (.next,S PL 382 776 w os,cE,⟨215,36,215,48⟩)) ME PM w os
def Y1(P:aq):Obj:=dd (Y0 P) [] [e P "FREE" 782 (vi 0 776),e P "FIRST_FREE" 783 (vi 1 777),e P "SECOND_FREE" 784 (vi 2 778),e P "FIXED" 785 (vi 3 779),e P "IS_FIRST" 786 (vi 4 780),e P "IS_SECOND" 787 (vi 5 781),e P "NONE_SEEN" 791 (vi 0 788),e P "FIRST_SEEN" 792 (vi 1 789),e P "SECOND_SEEN" 793 (vi 2 790),e P "SILENT_ACROSS" 794 (r 390),e P "SILENT_DOWN" 795 (r 391),e P "put_number" 805 (r 398),e P "put_signed" 815 (r 405),e P "put_counted" 825 (r 412),e P "put_units" 832 (r 419)] 120
def Y2(P:aq):Obj:=df (YY P) [] [(vi 220 0),(vi 0 0),(r 397),(vi 223 0),(vi 0 0),(r 404),(vi 229 0),(vi 0 0),(r 411),(vi 235 0),(vi 0 0),(r 418)]
def G18(P:aq):List Obj:=[om (.type "tuple") (sq [(vi 0 776),(vi 1 777),(vi 2 778),(vi 3 779),(vi 4 780),(vi 5 781)] 0),om (.type "tuple_iterator") (fs [.none,(vi 6 0)]),t0,om (.type "StopIteration") (fs [(r 384),.none,.none,.none,(.bool false),.none]),om (.type "tuple") (sq [(vi 0 788),(vi 1 789),(vi 2 790)] 0),om (.type "tuple_iterator") (fs [.none,(vi 3 0)]),t0,om (.type "StopIteration") (fs [(r 388),.none,.none,.none,(.bool false),.none]),om (.type "tuple") (sq [(vi 5 379),(vi 6 380),(vi 7 381),(vi 9 391),(vi 10 392),(vi 11 393),(vi 12 394)] 0),om (.type "tuple") (sq [(vi 5 379),(vi 6 380),(vi 7 381),(vi 9 391),(vi 10 392)] 0)]++qE 392 796 (st 57) "put_number" "put_number" 220 3 ["octets","number","room","place"] .none m6++qE 399 806 (st 58) "put_signed" "put_signed" 223 3 ["octets","first","size","room"] .none m6++qE 406 816 (st 59) "put_counted" "put_counted" 229 3 ["octets","first","number","room"] .none m6++qE 413 826 (st 60) "put_units" "put_units" 235 1 ["octets"] .none m6
def Vn(P:aq):BT:=tu (PL P) [(3,Y1 P),(12,Y2 P)] 382 (G18 P)
theorem MF(w:aP)(os:bf):rQ (w.withFollow "special-get-raises" false) 390 (S PL 382 776 (w.withFollow "special-get-raises" false) os) (th (sg 53 8) ⟨215,36,215,48⟩)=some (.next,S Vn 420 833 (w.withFollow "special-get-raises" false) os,cE,⟨235,0,238,40⟩):=by kernel_rfl
theorem PO(w:aP)(os:bf):rQ (w.withFollow "special-get-raises" true) 390 (S PL 382 776 (w.withFollow "special-get-raises" true) os) (th (sg 53 8) ⟨215,36,215,48⟩)=some (.next,S Vn 420 833 (w.withFollow "special-get-raises" true) os,cE,⟨235,0,238,40⟩):=by kernel_rfl
theorem g17(w:aP)(os:bf):rQ w 390 (S PL 382 776 w os) (th (sg 53 8) ⟨215,36,215,48⟩)=some (.next,S Vn 420 833 w os,cE,⟨235,0,238,40⟩):=jG "special-get-raises" (P:=fun w=>∀os,rQ w 390 (S PL 382 776 w os) (th (sg 53 8) ⟨215,36,215,48⟩)=some (.next,S Vn 420 833 w os,cE,⟨235,0,238,40⟩)) MF PO w os
def Y3(P:aq):Obj:=dd (Y1 P) [] [e P "define_font" 838 (r 424),e P "check_place" 845 (r 431),e P "Moves" 909 (r 469)] 123
def Y4(P:aq):Obj:=df (Y2 P) [] [(vi 239 0),(vi 0 0),(r 423),(vi 250 0),(vi 0 0),(r 430),(vi 254 0),(vi 0 0),(r 437)]
def M5(P:aq):List DictEntry:=[e P "__init__" 865 (r 445),e P "prune" 873 (r 452),e P "move" 885 (r 459),e P "hit" 899 (r 466),e P "__static_attributes__" 902 (r 467)]
def G19(P:aq):List Obj:=Ds 420 833 (st 61) "define_font" "define_font" 239 2 .none m6++qE 425 839 (st 62) "check_place" "check_place" 250 1 ["place"] .none m6++cA P 432 846 "Moves" m6 254 (M5 P) 8 [(vi 256 0),(vi 4 0),(r 444),(vi 260 0),(vi 4 0),(r 451),(vi 264 0),(vi 4 0),(r 458),(vi 276 0),(vi 4 0),(r 465)]++qE 439 858 (sm 63 0) "__init__" "Moves.__init__" 256 2 ["self","plain"] .none m6++qE 446 866 (sm 63 1) "prune" "Moves.prune" 260 2 ["self","begin"] .none m6++qE 453 874 (sm 63 2) "move" "Moves.move" 264 3 ["self","octets","size","hit","state","row"] .none m6++qE 460 886 (sm 63 3) "hit" "Moves.hit" 276 3 ["self","octets","size","seen","place","there","spot","state"] .none m6++[om (.type "tuple") (sq [(vs "plain" 900),(vs "rows" 901)] 0)]++cB P 468 846 903 "Moves" m6 254 (M5 P)
def T19(P:aq):BT:=tu (Vn P) [(3,Y3 P),(12,Y4 P)] 420 (G19 P)
theorem g18(w:aP)(os:bf):rQ w 385 (S Vn 420 833 w os) (th (sg 61 3) ⟨235,0,238,40⟩)=some (.next,S T19 474 910 w os,cE,⟨254,0,299,17⟩):=by kernel_rfl
def Y5(P:aq):Obj:=dd (Y3 P) [] [e P "barred" 917 (r 480)] 124
def Y6(P:aq):Obj:=df (Y4 P) [] [(vi 300 0),(vi 0 0),(r 479)]
def G20(P:aq):List Obj:=qE 474 910 (st 64) "barred" "barred" 300 2 ["state","used"] .none m6
def T20(P:aq):BT:=tu (T19 P) [(3,Y5 P),(12,Y6 P)] 474 (G20 P)
theorem g19(w:aP)(os:bf):rQ w 31 (S T19 474 910 w os) (th (sg 64 1) ⟨254,0,299,17⟩)=some (.next,S T20 481 918 w os,cE,⟨300,0,303,84⟩):=by kernel_rfl
def Y7(P:aq):Obj:=dd (Y5 P) [] [e P "PageWriter" 1030 (r 553)] 125
def Y8(P:aq):Obj:=df (Y6 P) [] [(vi 304 0),(vi 0 0),(r 486)]
def M6(P:aq):List DictEntry:=[e P "__init__" 938 (r 494),e P "open" 946 (r 501),e P "close" 955 (r 508),e P "go_across" 963 (r 515),e P "go_down" 971 (r 522),e P "choose" 980 (r 529),e P "letter" 991 (r 536),e P "rule" 1003 (r 543),e P "special" 1013 (r 550),e P "__static_attributes__" 1023 (r 551)]
def G21(P:aq):List Obj:=cA P 481 918 "PageWriter" m6 304 (M6 P) 13 [(vi 306 0),(vi 4 0),(r 493),(vi 317 0),(vi 4 0),(r 500),(vi 324 0),(vi 4 0),(r 507),(vi 333 0),(vi 4 0),(r 514),(vi 339 0),(vi 4 0),(r 521),(vi 345 0),(vi 4 0),(r 528),(vi 359 0),(vi 4 0),(r 535),(vi 370 0),(vi 4 0),(r 542),(vi 383 0),(vi 4 0),(r 549)]++qE 488 930 (sm 65 0) "__init__" "PageWriter.__init__" 306 3 ["self","fonts","depth"] .none m6++qE 495 939 (sm 65 1) "open" "PageWriter.open" 317 2 ["self","depth"] .none m6++qE 502 947 (sm 65 2) "close" "PageWriter.close" 324 3 ["self","begin","depth"] .none m6++qE 509 956 (sm 65 3) "go_across" "PageWriter.go_across" 333 2 ["self","h"] .none m6++qE 516 964 (sm 65 4) "go_down" "PageWriter.go_down" 339 2 ["self","v"] .none m6++qE 523 972 (sm 65 5) "choose" "PageWriter.choose" 345 2 ["self","font","known"] .none m6++qE 530 981 (sm 65 6) "letter" "PageWriter.letter" 359 5 ["self","font","code","h","v"] .none m6++qE 537 992 (sm 65 7) "rule" "PageWriter.rule" 370 6 ["self","height","width","h","v","moves"] .none m6++qE 544 1004 (sm 65 8) "special" "PageWriter.special" 383 4 ["self","octets","h","v"] .none m6++[om (.type "tuple") (sq [(vs "across" 1014),(vs "deepest" 1015),(vs "depth" 1016),(vs "down" 1017),(vs "font" 1018),(vs "fonts" 1019),(vs "h" 1020),(vs "octets" 1021),(vs "v" 1022)] 0)]++cB P 552 918 1024 "PageWriter" m6 304 (M6 P)
def T21(P:aq):BT:=tu (T20 P) [(3,Y7 P),(12,Y8 P)] 481 (G21 P)
theorem g20(w:aP)(os:bf):rQ w 499 (S T20 481 918 w os) (th (sg 65 1) ⟨300,0,303,84⟩)=some (.next,S T21 558 1031 w os,cE,⟨304,0,387,34⟩):=by kernel_rfl
def Y9(P:aq):Obj:=dd (Y7 P) [] [e P "parts_of" 1044 (r 564),e P "across_part" 1050 (r 569),e P "down_part" 1056 (r 574),e P "out_box" 1077 (r 581),e P "check_page" 1086 (r 588)] 130
def Za(P:aq):Obj:=df (Y8 P) [] [(vi 388 0),(vi 0 0),(r 563),(vi 400 0),(vi 0 0),(r 568),(vi 421 0),(vi 0 0),(r 573),(vi 442 0),(vi 0 0),(r 580),(vi 459 0),(vi 0 0),(r 587)]
def G22(P:aq):List Obj:=qE 558 1031 (st 66) "parts_of" "parts_of" 388 1 ["box","offsets","found","place","item","spot","part","behind"] .none m6++Ds 565 1045 (st 67) "across_part" "across_part" 400 5 .none m6++Ds 570 1051 (st 68) "down_part" "down_part" 421 5 .none m6++qE 575 1057 (st 69) "out_box" "out_box" 442 5 ["page","box","left","base","depth","begin","is_vertical","row","inner","part","part_left","part_base","is_copy","h","v"] .none m6++qE 582 1078 (st 70) "check_page" "check_page" 459 3 ["box","left","top"] .none m6
def T22(P:aq):BT:=tu (T21 P) [(3,Y9 P),(12,Za P)] 558 (G22 P)
theorem g21(w:aP)(os:bf):rQ w 163 (S T21 558 1031 w os) (th (sg 66 5) ⟨304,0,387,34⟩)=some (.next,S T22 589 1087 w os,cE,⟨459,0,465,50⟩):=by kernel_rfl
def Zb(P:aq):Obj:=dd (Y9 P) [(0,e P "__name__" 165 m7)] [e P "DviWriter" 1149 (r 622),e P "EDGE" 1153 (vi 256 1152),e P "MOST_FONTS" 1155 (vi 255 1154),e P "MOST_PARAMS" 1157 (vi 64 1156),e P "MOST_SIZE" 1163 (vi 134217727 1162)] 135
def Zc(P:aq):Obj:=df (Za P) [] [(vi 466 0),(vi 0 0),(r 594)]
def M7(P:aq):List DictEntry:=[e P "__init__" 1108 (r 603),e P "ship" 1123 (r 612),e P "done" 1133 (r 619),e P "__static_attributes__" 1142 (r 620)]
def G23(P:aq):List Obj:=cA P 589 1087 "DviWriter" m6 466 (M7 P) 7 [(vi 468 0),(vi 4 0),(r 602),(vi 484 0),(vi 4 0),(r 611),(vi 503 0),(vi 4 0),(r 618)]++[om (.type "tuple") (sq [(vi 40 1099)] 0)]++qE 597 1100 (sm 71 0) "__init__" "DviWriter.__init__" 468 2 ["self","depth","mark"] (r 596) m6++[t0,om (.type "tuple") (sq [(r 604),(vi 0 1109),(vi 0 1110)] 0)]++qE 606 1111 (sm 71 1) "ship" "DviWriter.ship" 484 5 ["self","box","counts","left","top","page","place"] (r 605) m6++qE 613 1124 (sm 71 2) "done" "DviWriter.done" 503 1 ["self","octets","number","place"] .none m6++[om (.type "tuple") (sq [(vs "deepest" 1134),(vs "depth" 1135),(vs "fonts" 1136),(vs "last" 1137),(vs "octets" 1138),(vs "pages" 1139),(vs "tallest" 1140),(vs "widest" 1141)] 0)]++cB P 621 1087 1143 "DviWriter" m6 466 (M7 P)
def Vo(P:aq):BT:=tu (T22 P) [(3,Zb P),(12,Zc P)] 589 (G23 P)
theorem g22(w:aP)(os:bf):rQ w 366 (S T22 589 1087 w os) (th (sg 71 6) ⟨459,0,465,50⟩)=some (.next,S Vo 627 1164 w os,cE,⟨524,0,524,9⟩):=by kernel_rfl
def Zd(P:aq):Obj:=dd (Zb P) [] [e P "PLAIN_SORT" 1168 (vi 0 1164),e P "PROGRAM_SORT" 1169 (vi 1 1165),e P "LARGER_SORT" 1170 (vi 2 1166),e P "PIECES_SORT" 1171 (vi 3 1167),e P "STOP_SKIP" 1175 (vi 128 1172),e P "KERN_OP" 1176 (vi 128 1173),e P "LEAD" 1177 (vi 255 1174),e P "NO_CHARACTER" 1184 (r 635),e P "LETTERS" 1186 (vs "abcdefghjklmnopqrstuvwxyz" 1185),e P "SMALL_PARAMS" 1194 (r 636),e P "is_size" 1201 (r 643),e P "check_sizes" 1209 (r 650),e P "check_pieces" 1219 (r 657),e P "check_chars" 1231 (r 664),e P "check_larger" 1241 (r 671)] 150
def Ze(P:aq):Obj:=df (Zc P) [] [(vi 530 0),(vi 0 0),(r 642),(vi 532 0),(vi 0 0),(r 649),(vi 536 0),(vi 0 0),(r 656),(vi 542 0),(vi 0 0),(r 663),(vi 554 0),(vi 0 0),(r 670)]
def G24(P:aq):List Obj:=[om (.type "tuple") (sq [(vi 0 1164),(vi 1 1165),(vi 2 1166),(vi 3 1167)] 0),om (.type "tuple_iterator") (fs [.none,(vi 4 0)]),t0,om (.type "StopIteration") (fs [(r 629),.none,.none,.none,(.bool false),.none]),om (.type "tuple") (sq [(vi 128 1172),(vi 128 1173),(vi 255 1174)] 0),om (.type "tuple_iterator") (fs [.none,(vi 3 0)]),t0,om (.type "StopIteration") (fs [(r 633),.none,.none,.none,(.bool false),.none]),om (.type "tuple") (sq [(vi 0 1178),(vi 0 1179),(vi 0 1180),(vi 0 1181),(vi 0 1182),(vi 0 1183)] 0),om (.type "tuple") (sq [(vi 0 1187),(vi 196608 1188),(vi 98304 1189),(vi 65536 1190),(vi 262144 1191),(vi 655360 1192),(vi 65536 1193)] 0)]++qE 637 1195 (st 82) "is_size" "is_size" 530 1 ["value"] .none m7++qE 644 1202 (st 83) "check_sizes" "check_sizes" 532 1 ["sizes","size"] .none m7++qE 651 1210 (st 84) "check_pieces" "check_pieces" 536 2 ["pieces","chars","place","code"] .none m7++qE 658 1220 (st 85) "check_chars" "check_chars" 542 2 ["chars","many","code","row","sort","rest"] .none m7++qE 665 1232 (st 86) "check_larger" "check_larger" 554 1 ["chars","code","far","turns"] .none m7
def Vp(P:aq):BT:=tu (Vo P) [(3,Zd P),(12,Ze P)] 627 (G24 P)
theorem MG(w:aP)(os:bf):rQ (w.withFollow "special-get-raises" false) 384 (S Vo 627 1164 (w.withFollow "special-get-raises" false) os) (th (sg 77 10) ⟨524,0,524,9⟩)=some (.next,S Vp 672 1242 (w.withFollow "special-get-raises" false) os,cE,⟨554,0,561,65⟩):=by kernel_rfl
theorem PQ(w:aP)(os:bf):rQ (w.withFollow "special-get-raises" true) 384 (S Vo 627 1164 (w.withFollow "special-get-raises" true) os) (th (sg 77 10) ⟨524,0,524,9⟩)=some (.next,S Vp 672 1242 (w.withFollow "special-get-raises" true) os,cE,⟨554,0,561,65⟩):=by kernel_rfl
theorem g23(w:aP)(os:bf):rQ w 384 (S Vo 627 1164 w os) (th (sg 77 10) ⟨524,0,524,9⟩)=some (.next,S Vp 672 1242 w os,cE,⟨554,0,561,65⟩):=jG "special-get-raises" (P:=fun w=>∀os,rQ w 384 (S Vo 627 1164 w os) (th (sg 77 10) ⟨524,0,524,9⟩)=some (.next,S Vp 672 1242 w os,cE,⟨554,0,561,65⟩)) MG PQ w os
def Zf(P:aq):Obj:=dd (Zd P) [] [e P "check_program" 1259 (r 678),e P "left_start" 1270 (r 685)] 152
def Zg(P:aq):Obj:=df (Ze P) [] [(vi 562 0),(vi 0 0),(r 677),(vi 581 0),(vi 0 0),(r 684)]
def G25(P:aq):List Obj:=qE 672 1242 (st 87) "check_program" "check_program" 562 4 ["program","kerns","chars","boundary","many","place","row","octet","skip","following","op","rest"] .none m7++qE 679 1260 (st 88) "left_start" "left_start" 581 1 ["program","skip","following","op","rest"] .none m7
def T25(P:aq):BT:=tu (Vp P) [(3,Zf P),(12,Zg P)] 672 (G25 P)
theorem g24(w:aP)(os:bf):rQ w 74 (S Vp 672 1242 w os) (th (sg 87 2) ⟨554,0,561,65⟩)=some (.next,S T25 686 1271 w os,cE,⟨581,0,585,50⟩):=by kernel_rfl
def Zh(P:aq):Obj:=dd (Zf P) [] [e P "Font" 1401 (r 775)] 153
def Zi(P:aq):Obj:=df (Zg P) [] [(vi 586 0),(vi 0 0),(r 691)]
def M8(P:aq):List DictEntry:=[e P "__init__" 1297 (r 702),e P "has" 1305 (r 709),e P "width" 1313 (r 716),e P "height" 1321 (r 723),e P "depth" 1329 (r 730),e P "italic" 1337 (r 737),e P "starts" 1345 (r 744),e P "larger" 1354 (r 751),e P "pieces" 1363 (r 758),e P "param" 1371 (r 765),e P "set_param" 1380 (r 772),e P "__static_attributes__" 1394 (r 773)]
def G26(P:aq):List Obj:=cA P 686 1271 "Font" m7 586 (M8 P) 15 [(vi 588 0),(vi 4 0),(r 701),(vi 612 0),(vi 4 0),(r 708),(vi 615 0),(vi 4 0),(r 715),(vi 618 0),(vi 4 0),(r 722),(vi 621 0),(vi 4 0),(r 729),(vi 624 0),(vi 4 0),(r 736),(vi 627 0),(vi 4 0),(r 743),(vi 630 0),(vi 4 0),(r 750),(vi 634 0),(vi 4 0),(r 757),(vi 638 0),(vi 4 0),(r 764),(vi 641 0),(vi 4 0),(r 771)]++[t0,t0,om (.type "tuple") (sq [(r 693),(r 694),(vi 256 1152)] 0)]++qE 696 1283 (sm 89 0) "__init__" "Font.__init__" 588 9 ["self","number","name","size","params","chars","program","kerns","boundary"] (r 695) m7++qE 703 1298 (sm 89 1) "has" "Font.has" 612 2 ["self","code"] .none m7++qE 710 1306 (sm 89 2) "width" "Font.width" 615 2 ["self","code"] .none m7++qE 717 1314 (sm 89 3) "height" "Font.height" 618 2 ["self","code"] .none m7++qE 724 1322 (sm 89 4) "depth" "Font.depth" 621 2 ["self","code"] .none m7++qE 731 1330 (sm 89 5) "italic" "Font.italic" 624 2 ["self","code"] .none m7++qE 738 1338 (sm 89 6) "starts" "Font.starts" 627 2 ["self","code"] .none m7++qE 745 1346 (sm 89 7) "larger" "Font.larger" 630 2 ["self","code","row"] .none m7++qE 752 1355 (sm 89 8) "pieces" "Font.pieces" 634 2 ["self","code","row"] .none m7++qE 759 1364 (sm 89 9) "param" "Font.param" 638 2 ["self","number"] .none m7++qE 766 1372 (sm 89 10) "set_param" "Font.set_param" 641 3 ["self","number","value"] .none m7++[om (.type "tuple") (sq [(vs "boundary" 1381),(vs "chars" 1382),(vs "check" 1383),(vs "design" 1384),(vs "edge_start" 1385),(vs "hyphen_char" 1386),(vs "kerns" 1387),(vs "name" 1388),(vs "number" 1389),(vs "params" 1390),(vs "program" 1391),(vs "size" 1392),(vs "skew_char" 1393)] 0)]++cB P 774 1271 1395 "Font" m7 586 (M8 P)
def Vq(P:aq):BT:=tu (T25 P) [(3,Zh P),(12,Zi P)] 686 (G26 P)
theorem g25(w:aP)(os:bf):rQ w 574 (S T25 686 1271 w os) (th (sg 89 1) ⟨581,0,585,50⟩)=some (.next,S Vq 780 1402 w os,cE,⟨586,0,642,16⟩):=by kernel_rfl
def Zj(P:aq):Obj:=dd (Zh P) [(0,e P "__name__" 165 m8)] [e P "font_name" 1410 (r 786),e P "font_of_rows" 1424 (r 796),e P "CHAR_ROW" 1430 (vi 0 1427),e P "RULE_ROW" 1431 (vi 1 1428),e P "SPECIAL_ROW" 1432 (vi 2 1429)] 158
def Zk(P:aq):Obj:=df (Zi P) [] [(vi 643 0),(vi 0 0),(r 785),(vi 650 0),(vi 0 0),(r 795)]
def G27(P:aq):List Obj:=qE 780 1402 (st 90) "font_name" "font_name" 643 1 ["number","left","found"] .none m7++[t0,t0,om (.type "tuple") (sq [(r 636),(r 787),(r 788),(vi 256 1152)] 0)]++qE 790 1411 (st 91) "font_of_rows" "font_of_rows" 650 6 ["number","rows","params","program","kerns","boundary","chars","row"] (r 789) m7++[om (.type "tuple") (sq [(vi 0 1427),(vi 1 1428),(vi 2 1429)] 0),om (.type "tuple_iterator") (fs [.none,(vi 3 0)]),t0,om (.type "StopIteration") (fs [(r 799),.none,.none,.none,(.bool false),.none])]
def Vr(P:aq):BT:=tu (Vq P) [(3,Zj P),(12,Zk P)] 780 (G27 P)
theorem MI(w:aP)(os:bf):rQ (w.withFollow "special-get-raises" false) 169 (S Vq 780 1402 (w.withFollow "special-get-raises" false) os) (th (sg 90 4) ⟨586,0,642,16⟩)=some (.next,S Vr 801 1433 (w.withFollow "special-get-raises" false) os,cE,⟨660,20,660,31⟩):=by kernel_rfl
theorem PR(w:aP)(os:bf):rQ (w.withFollow "special-get-raises" true) 169 (S Vq 780 1402 (w.withFollow "special-get-raises" true) os) (th (sg 90 4) ⟨586,0,642,16⟩)=some (.next,S Vr 801 1433 (w.withFollow "special-get-raises" true) os,cE,⟨660,20,660,31⟩):=by kernel_rfl
theorem g26(w:aP)(os:bf):rQ w 169 (S Vq 780 1402 w os) (th (sg 90 4) ⟨586,0,642,16⟩)=some (.next,S Vr 801 1433 w os,cE,⟨660,20,660,31⟩):=jG "special-get-raises" (P:=fun w=>∀os,rQ w 169 (S Vq 780 1402 w os) (th (sg 90 4) ⟨586,0,642,16⟩)=some (.next,S Vr 801 1433 w os,cE,⟨660,20,660,31⟩)) MI PR w os
def Zl(P:aq):Obj:=dd (Zj P) [] [e P "OctetStream" 1493 (r 838)] 159
def Zm(P:aq):Obj:=df (Zk P) [] [(vi 661 0),(vi 0 0),(r 806)]
def M9(P:aq):List DictEntry:=[e P "__init__" 1452 (r 814),e P "number" 1463 (r 821),e P "signed" 1473 (r 828),e P "taken" 1483 (r 835),e P "__static_attributes__" 1486 (r 836)]
def G28(P:aq):List Obj:=cA P 801 1433 "OctetStream" m8 661 (M9 P) 8 [(vi 663 0),(vi 4 0),(r 813),(vi 669 0),(vi 4 0),(r 820),(vi 679 0),(vi 4 0),(r 827),(vi 686 0),(vi 4 0),(r 834)]++qE 808 1445 (sm 94 0) "__init__" "OctetStream.__init__" 663 2 ["self","octets"] .none m8++qE 815 1453 (sm 94 1) "number" "OctetStream.number" 669 2 ["self","room","end","found","place"] .none m8++qE 822 1464 (sm 94 2) "signed" "OctetStream.signed" 679 2 ["self","room","found","half"] .none m8++qE 829 1474 (sm 94 3) "taken" "OctetStream.taken" 686 2 ["self","many","end","found"] .none m8++[om (.type "tuple") (sq [(vs "at" 1484),(vs "octets" 1485)] 0)]++cB P 837 1433 1487 "OctetStream" m8 661 (M9 P)
def T28(P:aq):BT:=tu (Vr P) [(3,Zl P),(12,Zm P)] 801 (G28 P)
theorem g27(w:aP)(os:bf):rQ w 327 (S Vr 801 1433 w os) (th (sg 94 1) ⟨660,20,660,31⟩)=some (.next,S T28 843 1494 w os,cE,⟨661,0,692,20⟩):=by kernel_rfl
def Zn(P:aq):Obj:=dd (Zl P) [] [e P "PageState" 1555 (r 880)] 160
def Zo(P:aq):Obj:=df (Zm P) [] [(vi 693 0),(vi 0 0),(r 848)]
def M10(P:aq):List DictEntry:=[e P "__init__" 1512 (r 856),e P "push" 1519 (r 863),e P "pop" 1526 (r 870),e P "go" 1537 (r 877),e P "__static_attributes__" 1548 (r 878)]
def G29(P:aq):List Obj:=cA P 843 1494 "PageState" m8 693 (M10 P) 8 [(vi 695 0),(vi 4 0),(r 855),(vi 707 0),(vi 4 0),(r 862),(vi 711 0),(vi 4 0),(r 869),(vi 716 0),(vi 4 0),(r 876)]++qE 850 1506 (sm 95 0) "__init__" "PageState.__init__" 695 1 ["self"] .none m8++qE 857 1513 (sm 95 1) "push" "PageState.push" 707 1 ["self"] .none m8++qE 864 1520 (sm 95 2) "pop" "PageState.pop" 711 1 ["self"] .none m8++qE 871 1527 (sm 95 3) "go" "PageState.go" 716 3 ["self","across","down","h","v"] .none m8++[om (.type "tuple") (sq [(vs "deepest" 1538),(vs "font" 1539),(vs "h" 1540),(vs "rows" 1541),(vs "stack" 1542),(vs "v" 1543),(vs "w" 1544),(vs "x" 1545),(vs "y" 1546),(vs "z" 1547)] 0)]++cB P 879 1494 1549 "PageState" m8 693 (M10 P)
def T29(P:aq):BT:=tu (T28 P) [(3,Zn P),(12,Zo P)] 843 (G29 P)
theorem g28(w:aP)(os:bf):rQ w 328 (S T28 843 1494 w os) (th (sg 95 1) ⟨661,0,692,20⟩)=some (.next,S T29 885 1556 w os,cE,⟨693,0,721,18⟩):=by kernel_rfl
def Zp(P:aq):Obj:=dd (Zn P) [] [e P "Device" 1591 (r 901),e P "read_units" 1599 (r 912),e P "read_font" 1605 (r 917),e P "is_font_definition" 1612 (r 924),e P "read_move" 1622 (r 931),e P "read_letter" 1633 (r 938)] 166
def Zq(P:aq):Obj:=df (Zo P) [] [(vi 722 0),(vi 0 0),(r 890),(vi 732 0),(vi 0 0),(r 911),(vi 737 0),(vi 0 0),(r 916),(vi 753 0),(vi 0 0),(r 923),(vi 755 0),(vi 0 0),(r 930),(vi 765 0),(vi 0 0),(r 937)]
def M11(P:aq):List DictEntry:=[e P "__init__" 1576 (r 898),e P "__static_attributes__" 1584 (r 899)]
def G30(P:aq):List Obj:=cA P 885 1556 "Device" m8 722 (M11 P) 5 [(vi 724 0),(vi 4 0),(r 897)]++qE 892 1568 (sm 96 0) "__init__" "Device.__init__" 724 3 ["self","units","comment"] .none m8++[om (.type "tuple") (sq [(vs "comment" 1577),(vs "deepest" 1578),(vs "fonts" 1579),(vs "pages" 1580),(vs "tallest" 1581),(vs "units" 1582),(vs "widest" 1583)] 0)]++cB P 900 1556 1585 "Device" m8 722 (M11 P)++qE 906 1592 (st 97) "read_units" "read_units" 732 1 ["stream","found"] .none m8++Ds 913 1600 (st 98) "read_font" "read_font" 737 3 .none m8++qE 918 1606 (st 99) "is_font_definition" "is_font_definition" 753 1 ["opcode"] .none m8++qE 925 1613 (st 100) "read_move" "read_move" 755 4 ["stream","which","first","second"] .none m8++qE 932 1623 (st 101) "read_letter" "read_letter" 765 4 ["state","code","fonts","moves","font"] .none m8
def T30(P:aq):BT:=tu (T29 P) [(3,Zp P),(12,Zq P)] 885 (G30 P)
theorem g29(w:aP)(os:bf):rQ w 380 (S T29 885 1556 w os) (th (sg 96 6) ⟨693,0,721,18⟩)=some (.next,S T30 939 1634 w os,cE,⟨765,0,771,37⟩):=by kernel_rfl
def Zr(P:aq):Obj:=dd (Zp P) [(0,e P "__name__" 165 m9)] [e P "read_rule" 1644 (r 945),e P "choose_font" 1653 (r 952),e P "add_font" 1665 (r 959),e P "page_step" 1678 (r 966),e P "read_page" 1684 (r 971),e P "read_post_fonts" 1697 (r 978),e P "read_postamble" 1703 (r 983),e P "read_file" 1720 (r 990),e P "_law_sizes" 1732 (r 991),e P "_law_box" 1738 (r 996),e P "_law_take" 1748 (r 1003),e P "_law_item" 1760 (r 1010)] 178
def Zs(P:aq):Obj:=df (Zq P) [] [(vi 772 0),(vi 0 0),(r 944),(vi 779 0),(vi 0 0),(r 951),(vi 783 0),(vi 0 0),(r 958),(vi 788 0),(vi 0 0),(r 965),(vi 822 0),(vi 0 0),(r 970),(vi 834 0),(vi 0 0),(r 977),(vi 848 0),(vi 0 0),(r 982),(vi 866 0),(vi 0 0),(r 989),(vi 891 0),(vi 0 0),(r 995),(vi 897 0),(vi 0 0),(r 1002),(vi 905 0),(vi 0 0),(r 1009)]
def G31(P:aq):List Obj:=qE 939 1634 (st 102) "read_rule" "read_rule" 772 3 ["stream","state","moves","height","width"] .none m8++qE 946 1645 (st 103) "choose_font" "choose_font" 779 3 ["state","number","known"] .none m8++qE 953 1654 (st 104) "add_font" "add_font" 783 4 ["stream","opcode","known","fonts","number","row"] .none m8++qE 960 1666 (st 105) "page_step" "page_step" 788 5 ["stream","state","opcode","known","fonts","size","many"] .none m8++Ds 967 1679 (st 106) "read_page" "read_page" 822 4 .none m8++qE 972 1685 (st 107) "read_post_fonts" "read_post_fonts" 834 3 ["stream","known","fonts","told","opcode","number","row"] .none m8++Ds 979 1698 (st 108) "read_postamble" "read_postamble" 848 4 .none m8++qE 984 1704 (st 109) "read_file" "read_file" 866 2 ["octets","fonts","stream","units","many","device","last","opcode","begin","counts","state"] .none m8++[om (.type "tuple") (sq [(vi 0 1723),(vi 5 1724),(vi (-7) 1726),(vi 40 1727),(vi 300 1728),(vi 5 1729),(vi 70000 1730),(vi 40 1731)] 0)]++Ds 992 1733 (st 112) "_law_box" "_law_box" 891 2 .none m9++qE 997 1739 (st 113) "_law_take" "_law_take" 897 2 ["box","many","digit","mixed"] .none m9++qE 1004 1749 (st 114) "_law_item" "_law_item" 905 3 ["box","fonts","deep","way","one","two"] .none m9
def T31(P:aq):BT:=tu (T30 P) [(3,Zr P),(12,Zs P)] 939 (G31 P)
theorem g30(w:aP)(os:bf):rQ w 384 (S T30 939 1634 w os) (th (sg 102 13) ⟨765,0,771,37⟩)=some (.next,S T31 1011 1761 w os,cE,⟨905,0,915,72⟩):=by kernel_rfl
def QQ(P:aq):Obj:=dd (Zr P) [] [e P "_law_boxed" 1766 (r 1015),e P "_law_read" 1779 (r 1022),e P "_law_extent" 1786 (r 1029),e P "law" 1792 (r 1034)] 182
def QR(P:aq):Obj:=df (Zs P) [] [(vi 916 0),(vi 0 0),(r 1014),(vi 922 0),(vi 0 0),(r 1021),(vi 927 0),(vi 0 0),(r 1028),(vi 929 0),(vi 0 0),(r 1033)]
def G32(P:aq):List Obj:=Ds 1011 1761 (st 115) "_law_boxed" "_law_boxed" 916 3 .none m9++qE 1016 1767 (st 116) "_law_read" "_law_read" 922 2 ["pages","fonts","writer","shown","numbers","left","top"] .none m9++qE 1023 1780 (st 117) "_law_extent" "_law_extent" 927 1 ["device"] .none m9++Ds 1030 1787 (st 118) "law" "law" 929 1 .none m9
def T32(P:aq):BT:=tu (T31 P) [(3,QQ P),(12,QR P)] 1011 (G32 P)
theorem g31(w:aP)(os:bf):rQ w 117 (S T31 1011 1761 w os) (th (sg 115 4) ⟨905,0,915,72⟩)=some (.next,S T32 1035 1793 w os,cE,⟨929,0,948,97⟩):=by kernel_rfl
def G(P:aq):List Obj:=G0 P++G1 P++G2 P++G3 P++G4 P++G5 P++G6 P++G7 P++G8 P++G9 P++G10 P++G11 P++G12 P++G13 P++G14 P++G15 P++G16 P++G17 P++G18 P++G19 P++G20 P++G21 P++G22 P++G23 P++G24 P++G25 P++G26 P++G27 P++G28 P++G29 P++G30 P++G31 P++G32 P
@[irreducible] def H1(P:aq):bp:=⟨⟨PD (G P) [(3,QQ P),(12,QR P),(39,YI P)]⟩,{}⟩
def S1(w:aP)(os:bf):Shared:=⟨H1 w.params,#[],{},1793,os⟩
theorem fin(w:aP)(os:bf):mI eO pw w 11 (some (r 6)) 2 (S T32 1035 1793 w os).abs ⟨doneF .next,cE,⟨929,0,948,97⟩,UK⟩=some (S1 w os):=by rw[PySem.W.Fast.te14082659384304107361,PySem.W.Fast.te14364793385576792824];kernel_rfl
theorem Zt:bE=sg 0 3++(sg 3 1++(sg 4 1++(sg 5 1++(sg 6 1++(sg 7 1++(sg 8 8++(sg 16 4++(sg 20 3++(sg 23 3++(sg 26 1++(sg 27 1++(sg 28 1++(sg 29 7++(sg 36 10++(sg 46 2++(sg 48 5++(sg 53 8++(sg 61 3++(sg 64 1++(sg 65 1++(sg 66 5++(sg 71 6++(sg 77 10++(sg 87 2++(sg 89 1++(sg 90 4++(sg 94 1++(sg 95 1++(sg 96 6++(sg 102 13++(sg 115 4++[]))))))))))))))))))))))))))))))):=by kernel_rfl
theorem run(w:aP)(os:bf):mI eO pw w 11 (some (r 6)) (12+(1+(259+(214+(214+(214+(214+(214+(383+(368+(340+(368+(235+(241+(238+(395+(239+(383+(268+(390+(385+(31+(499+(163+(366+(384+(74+(574+(169+(327+(328+(380+(384+(117+2)))))))))))))))))))))))))))))))))) ⟨fC w.params,#[],kM,lK,os⟩ (topStub pw)=some (S1 w os):=
 go_top (pre w os) (piece_block (q:=⟨0,0,0,0⟩) (blk w os) ((congrArg (fun b=>mI eO pw w 11 (some (r 6)) (259+(214+(214+(214+(214+(214+(383+(368+(340+(368+(235+(241+(238+(395+(239+(383+(268+(390+(385+(31+(499+(163+(366+(384+(74+(574+(169+(327+(328+(380+(384+(117+2)))))))))))))))))))))))))))))))) (S T0 15 187 w os).abs (restOf b Ja cE ⟨0,0,0,0⟩ UK)) Zt).trans (link (g0 w os) (link (g1 w os) (link (g2 w os) (link (g3 w os) (link (g4 w os) (link (g5 w os) (link (g6 w os) (link (g7 w os) (link (g8 w os) (link (g9 w os) (link (g10 w os) (link (g11 w os) (link (g12 w os) (link (g13 w os) (link (g14 w os) (link (g15 w os) (link (g16 w os) (link (g17 w os) (link (g18 w os) (link (g19 w os) (link (g20 w os) (link (g21 w os) (link (g22 w os) (link (g23 w os) (link (g24 w os) (link (g25 w os) (link (g26 w os) (link (g27 w os) (link (g28 w os) (link (g29 w os) (link (g30 w os) (link (g31 w os) (fin w os)))))))))))))))))))))))))))))))))))
noncomputable def as:List Addr:=[2,3,15,17,18,20,21,22,29,30,32,33,35,36,37,38,39,40,43,50,51,52,55,62,63,64,67,74,75,76,79,86,87,88,91,98,99,100,103,110,111,112,115,117,118,120,121,122,124,125,127,128,129,131,132,134,135,136,138,139,141,142,143,145,146,148,149,174,176,177,179,180,188,190,191,193,194,195,196,197,198,199,209,211,212,214,215,216,217,218,219,220,230,232,233,235,236,237,238,239,240,241,251,253,254,256,257,258,259,260,261,262,272,274,275,277,278,279,280,281,282,283,286,289,290,291,294,295,296,299,300,301,303,304,306,307,308,310,311,313,314,315,318,319,320,322,323,325,326,327,329,330,332,333,334,336,337,339,340,341,343,344,346,347,348,350,351,353,354,355,357,358,360,361,390,391,392,394,395,397,398,399,401,402,404,405,406,408,409,411,412,413,415,416,418,419,420,423,424,425,427,428,430,431,439,441,442,444,445,446,448,449,451,452,453,455,456,458,459,460,462,463,465,466,467,468,469,470,471,474,476,477,479,480,488,490,491,493,494,495,497,498,500,501,502,504,505,507,508,509,511,512,514,515,516,518,519,521,522,523,525,526,528,529,530,532,533,535,536,537,539,540,542,543,544,546,547,549,550,551,552,553,554,555,558,560,561,563,564,565,568,569,570,573,574,575,577,578,580,581,582,584,585,587,588,596,597,599,600,602,603,604,605,606,608,609,611,612,613,615,616,618,619,620,621,622,623,624,635,636,637,639,640,642,643,644,646,647,649,650,651,653,654,656,657,658,660,661,663,664,665,667,668,670,671,672,674,675,677,678,679,681,682,684,685,693,694,695,696,698,699,701,702,703,705,706,708,709,710,712,713,715,716,717,719,720,722,723,724,726,727,729,730,731,733,734,736,737,738,740,741,743,744,745,747,748,750,751,752,754,755,757,758,759,761,762,764,765,766,768,769,771,772,773,774,775,776,777,780,782,783,785,786,787,788,789,790,792,793,795,796,808,810,811,813,814,815,817,818,820,821,822,824,825,827,828,829,831,832,834,835,836,837,838,839,840,850,852,853,855,856,857,859,860,862,863,864,866,867,869,870,871,873,874,876,877,878,879,880,881,882,892,894,895,897,898,899,900,901,902,903,906,908,909,911,912,913,916,917,918,920,921,923,924,925,927,928,930,931,932,934,935,937,938,939,941,942,944,945,946,948,949,951,952,953,955,956,958,959,960,962,963,965,966,967,970,971,972,974,975,977,978,979,982,983,984,986,987,989,990,991,992,995,996,997,999,1000,1002,1003,1004,1006,1007,1009,1010,1011,1014,1015,1016,1018,1019,1021,1022,1023,1025,1026,1028,1029,1030,1033,1034]
@[irreducible] def K(P:aq):Frag:=pk 0 as (H1 P).objs.toList
noncomputable def loose:List PySem.Str:=(["_wall","PageError","BadArgument","Overflow","BadFont","BadDevice","TooDeep","TooMuch","MAX_DIMEN","MAX_NUMBER","is_whole","check_whole","check_number","check_dimen","rounded","CHAR","LIGATURE","HBOX","VBOX","RULE","KERN","GLUE","PENALTY","DISC","MARK","INSERT","ADJUST","MATH","SPECIAL","UNSET","NATURAL","STRETCHED","SHRUNK","FONT_KERN","EXPLICIT","ACCENT_KERN","MU_KERN","PLAIN","ALEADERS","CLEADERS","XLEADERS","MU_SKIP","NONSCRIPT","NAMED","FOR_DEVICE","WRITING","OPENING","CLOSING","check_code","Char","Box","Rule","Kern","Special","width_of","height_of","depth_of","line_height","line_depth","MOST_COPIES","leader_places","with_rule_sizes","check_column","flex","set_part","part_size","places","SET_1","SET_RULE","PUT_1","PUT_RULE","NO_OPERATION","PAGE_BEGIN","PAGE_END","PUSH","POP","RIGHT_1","DOWN_1","FONT_0","FONT_1","SPECIAL_1","FONT_DEF_1","PREAMBLE","POSTAMBLE","POST_POST","FILLING","IDENTITY","NUMERATOR","DENOMINATOR","MAGNIFICATION","COMMENT_TEXT","DEEPEST_BOXES","FIRST_SET","SECOND_SET","FIRST_AGAIN","SECOND_AGAIN","FREE","FIRST_FREE","SECOND_FREE","FIXED","IS_FIRST","IS_SECOND","NONE_SEEN","FIRST_SEEN","SECOND_SEEN","SILENT_ACROSS","SILENT_DOWN","put_number","put_signed","put_counted","put_units","define_font","check_place","Moves","barred","PageWriter","parts_of","across_part","down_part","out_box","check_page","DviWriter","EDGE","MOST_FONTS","MOST_PARAMS","MOST_SIZE","PLAIN_SORT","PROGRAM_SORT","LARGER_SORT","PIECES_SORT","STOP_SKIP","KERN_OP","LEAD","NO_CHARACTER","LETTERS","SMALL_PARAMS","is_size","check_sizes","check_pieces","check_chars","check_larger","check_program","left_start","Font","font_name","font_of_rows","CHAR_ROW","RULE_ROW","SPECIAL_ROW","OctetStream","PageState","Device","read_units","read_font","is_font_definition","read_move","read_letter","read_rule","choose_font","add_font","page_step","read_page","read_post_fonts","read_postamble","read_file","_law_sizes","_law_box","_law_take","_law_item","_law_boxed","_law_read","_law_extent"]:List String).map bj
end Hd
namespace Hd
def ao7:Stmt:=st 118
def q:Program:={pw with main:={pw.main with body:=[ao7]}}
theorem PT:∀w:aP,(fencedOpening eO pw w 20000).map (fun s=>(s.heap,s.gens,s.drawn,s.toks))=some (fC w.params,Array.mk [],kM,lK):=
 boot_open (by kernel_rfl) (by decide+kernel) (fun s=>by kernel_rfl)
theorem PU(w:aP):((fC w.params).isNs fS&&(#[]:Array GenState).size==0,(fC w.params).objs.size,(fC w.params).nsMap fS "__annotations__")=(true,11,some (r 6)):=by kernel_rfl
end Hd
namespace Hd
theorem Zu(w:aP)(os:bf):(staticsOk (mJ pw.main.body) (fC w.params) (H1 w.params)&&namesBound pw (H1 w.params)&&gensDone (S1 w os)&&laidKept (fC w.params) (H1 w.params))=true:=by kernel_rfl
theorem Zv(w:aP)(os:bf):openSeen q loose (mJ pw.main.body) (fun J=>true) true (S1 w os)=openGood q loose:=by rw[PySem.W.Fast.te4187177175401517315];kernel_rfl
theorem av4(w:aP)(os:bf):as.map (S1 w os).heap.get?=(K w.params).map fun p=>some p.2:=by kernel_rfl
end Hd
namespace Hd
noncomputable abbrev rw2:OpenLaw:=PySem.Challenge.rw_sq0080_02
theorem ao8:rw2.wellSaid=true:=by
 unfold OpenLaw.wellSaid OpenRow.wellSaid OpenRow.partSaid looksOpen;repeat' with_reducible refine look_both ?_ ?_
 ·rw[Fast.te11788848310118352699,aL];decide+kernel
 ·rw[Fast.te9807087744658564304,aL,Fast.te12862048085361865435];decide+kernel
 ·rw[Fast.te8377067652309620493,aL];decide+kernel
 ·rw[R.allR_eq,et,aL,bV,cK,Fast.te14412699480532031325];decide+kernel
 ·rw[i9,R.allR_eq,Fast.te5923862056798008813,aL,bV,cK,Fast.te17691160309236699985,R.filterR_eq,Fast.te13343964577679436407];decide+kernel
 ·rw[ew,aL,Fast.te17868728402115742887];decide+kernel
 ·rw[aL];decide+kernel
 ·rw[aL];decide+kernel
 ·rw[aL,R.allR_eq,Fast.te9706382859710513879];decide+kernel
 ·rw[R.allR_eq,aL,bV,cK,et,S.strDecS_eq,Fast.te2357444279172408678];decide+kernel
 ·rw[R.mapR_eq,aL,cK];decide+kernel
 ·rw[R.allR_eq,aL,Fast.te4857012375875476094,kW,bV,cK,et];decide+kernel
 ·rw[Fast.te13582783067957832011,aL];decide+kernel
 ·rw[fQ,aL];decide+kernel
 ·rw[fQ,aL];decide+kernel
 ·rw[R.allR_eq,aL,fQ];decide+kernel
 ·rw[R.allR_eq,aL,Fast.te4579403493507170074,R.anyR_eq,Fast.te4274047373036748609];decide+kernel
 ·rw[R.allR_eq,aL];decide+kernel
 ·rw[aL];decide+kernel
 ·rw[bV,cK,et,aL];decide+kernel
 ·rw[bV,cK,Fast.te12749700546528644094,aL];decide+kernel
 ·decide+kernel
 ·rw[R.allR_eq,Fast.te10501279942588096481];decide+kernel
 ·rw[Fast.te8179353310426384613];decide+kernel
 ·decide+kernel
 ·decide+kernel
 ·rw[i9,ji,ja];decide+kernel
 ·rw[Fast.te9558739934217749035];decide+kernel
 ·rw[Fast.te16286561074155671207];decide+kernel
 ·rw[R.allR_eq,cK];decide+kernel
 ·rw[R.allR_eq,ji,kW,cK,fR];decide+kernel
 ·rw[R.allR_eq,iX,iY,fR];decide+kernel
 ·rw[R.allR_eq,iX,iY,fR,Fast.te482687673346738481,cK];decide+kernel
 ·rw[ew,bV,cK,ja];decide+kernel
 ·rw[bV,cK,ez];decide+kernel
 ·rw[Fast.te7723801398212525404,cK,ez];decide+kernel
 ·rw[R.allR_eq,ez,kW];decide+kernel
 ·rw[ew,bV,cK,ez];decide+kernel
 ·rw[ew,cK];decide+kernel
end Hd
end Mine.Internal
namespace Mine.Internal
open PySem PySem.W PySem.Calls PyProof.Rows
@[irreducible] def Kc(P:aq):Frag:=(Hd.K P).filter fun x=> !(bQ x.1 3)
noncomputable def glL:List (String×Gl):=[("_wall",.fn 0),("PageError",.cls 39),("BadArgument",.cls 52),("Overflow",.cls 64),("BadFont",.cls 76),("BadDevice",.cls 88),("TooDeep",.cls 100),("TooMuch",.cls 112),("MAX_DIMEN",.val (.int 1073741823)),("MAX_NUMBER",.val (.int 2147483647)),("is_whole",.fn 2),("check_whole",.fn 3),("check_number",.fn 4),("check_dimen",.fn 5),("rounded",.fn 6),("CHAR",.val (.int 0)),("LIGATURE",.val (.int 1)),("HBOX",.val (.int 2)),("VBOX",.val (.int 3)),("RULE",.val (.int 4)),("KERN",.val (.int 5)),("GLUE",.val (.int 6)),("PENALTY",.val (.int 7)),("DISC",.val (.int 8)),("MARK",.val (.int 9)),("INSERT",.val (.int 10)),("ADJUST",.val (.int 11)),("MATH",.val (.int 12)),("SPECIAL",.val (.int 13)),("UNSET",.val (.int 14)),("NATURAL",.val (.int 0)),("STRETCHED",.val (.int 1)),("SHRUNK",.val (.int 2)),("FONT_KERN",.val (.int 0)),("EXPLICIT",.val (.int 1)),("ACCENT_KERN",.val (.int 2)),("MU_KERN",.val (.int 3)),("PLAIN",.val (.int 0)),("ALEADERS",.val (.int 1)),("CLEADERS",.val (.int 2)),("XLEADERS",.val (.int 3)),("MU_SKIP",.val (.int 4)),("NONSCRIPT",.val (.int 5)),("NAMED",.val (.int 100)),("FOR_DEVICE",.val (.int 0)),("WRITING",.val (.int 1)),("OPENING",.val (.int 2)),("CLOSING",.val (.int 3)),("check_code",.fn 7),("Char",.cls 197),("Box",.cls 218),("Rule",.cls 239),("Kern",.cls 260),("Special",.cls 281),("width_of",.fn 13),("height_of",.fn 14),("depth_of",.fn 15),("line_height",.fn 16),("line_depth",.fn 17),("MOST_COPIES",.val (.int 2000)),("leader_places",.fn 18),("with_rule_sizes",.fn 19),("check_column",.fn 20),("flex",.fn 21),("set_part",.fn 22),("part_size",.fn 23),("places",.fn 24),("SET_1",.val (.int 128)),("SET_RULE",.val (.int 132)),("PUT_1",.val (.int 133)),("PUT_RULE",.val (.int 137)),("NO_OPERATION",.val (.int 138)),("PAGE_BEGIN",.val (.int 139)),("PAGE_END",.val (.int 140)),("PUSH",.val (.int 141)),("POP",.val (.int 142)),("RIGHT_1",.val (.int 143)),("DOWN_1",.val (.int 157)),("FONT_0",.val (.int 171)),("FONT_1",.val (.int 235)),("SPECIAL_1",.val (.int 239)),("FONT_DEF_1",.val (.int 243)),("PREAMBLE",.val (.int 247)),("POSTAMBLE",.val (.int 248)),("POST_POST",.val (.int 249)),("FILLING",.val (.int 223)),("IDENTITY",.val (.int 2)),("NUMERATOR",.val (.int 25400000)),("DENOMINATOR",.val (.int 473628672)),("MAGNIFICATION",.val (.int 1000)),("COMMENT_TEXT",.val (.str (bj "gluepage"))),("DEEPEST_BOXES",.val (.int 60)),("FIRST_SET",.val (.int 5)),("SECOND_SET",.val (.int 10)),("FIRST_AGAIN",.val (.int 4)),("SECOND_AGAIN",.val (.int 9)),("FREE",.val (.int 0)),("FIRST_FREE",.val (.int 1)),("SECOND_FREE",.val (.int 2)),("FIXED",.val (.int 3)),("IS_FIRST",.val (.int 4)),("IS_SECOND",.val (.int 5)),("NONE_SEEN",.val (.int 0)),("FIRST_SEEN",.val (.int 1)),("SECOND_SEEN",.val (.int 2)),("SILENT_ACROSS",.val (.tup [(.int 5),(.int 6),(.int 7),(.int 9),(.int 10),(.int 11),(.int 12)])),("SILENT_DOWN",.val (.tup [(.int 5),(.int 6),(.int 7),(.int 9),(.int 10)])),("put_number",.fn 25),("put_signed",.fn 26),("put_counted",.fn 27),("put_units",.fn 28),("define_font",.fn 29),("check_place",.fn 30),("Moves",.cls 469),("barred",.fn 35),("PageWriter",.cls 553),("parts_of",.fn 45),("across_part",.fn 46),("down_part",.fn 47),("out_box",.fn 48),("check_page",.fn 49),("DviWriter",.cls 622),("EDGE",.val (.int 256)),("MOST_FONTS",.val (.int 255)),("MOST_PARAMS",.val (.int 64)),("MOST_SIZE",.val (.int 134217727)),("PLAIN_SORT",.val (.int 0)),("PROGRAM_SORT",.val (.int 1)),("LARGER_SORT",.val (.int 2)),("PIECES_SORT",.val (.int 3)),("STOP_SKIP",.val (.int 128)),("KERN_OP",.val (.int 128)),("LEAD",.val (.int 255)),("NO_CHARACTER",.val (.tup [(.int 0),(.int 0),(.int 0),(.int 0),(.int 0),(.int 0)])),("LETTERS",.val (.str (bj "abcdefghjklmnopqrstuvwxyz"))),("SMALL_PARAMS",.val (.tup [(.int 0),(.int 196608),(.int 98304),(.int 65536),(.int 262144),(.int 655360),(.int 65536)])),("is_size",.fn 53),("check_sizes",.fn 54),("check_pieces",.fn 55),("check_chars",.fn 56),("check_larger",.fn 57),("check_program",.fn 58),("left_start",.fn 59),("Font",.cls 775),("font_name",.fn 71),("font_of_rows",.fn 72),("CHAR_ROW",.val (.int 0)),("RULE_ROW",.val (.int 1)),("SPECIAL_ROW",.val (.int 2)),("OctetStream",.cls 838),("PageState",.cls 880),("Device",.cls 901),("read_units",.fn 82),("read_font",.fn 83),("is_font_definition",.fn 84),("read_move",.fn 85),("read_letter",.fn 86),("read_rule",.fn 87),("choose_font",.fn 88),("add_font",.fn 89),("page_step",.fn 90),("read_page",.fn 91),("read_post_fonts",.fn 92),("read_postamble",.fn 93),("read_file",.fn 94),("_law_sizes",.val (.tup [(.int 0),(.int 5),(.int (-7)),(.int 40),(.int 300),(.int 5),(.int 70000),(.int 40)])),("_law_box",.fn 95),("_law_take",.fn 96),("_law_item",.fn 97),("_law_boxed",.fn 98),("_law_read",.fn 99),("_law_extent",.fn 100),("law",.fn 101)]
noncomputable def Zw:List (String×Gl):=[("len",.blt .len),("abs",.blt .abs),("ord",.blt .ord),("int",.blt .yi),("sum",.blt .sum),("max",.blt .max),("min",.blt .min),("list",.blt .list),("tuple",.blt .tuple),("dict",.blt .dict),("bytes",.blt .bytes),("sorted",.blt .sorted),("range",.blt .range),("isinstance",.blt .ri),("bool",.ty "bool"),("str",.ty "str"),("bytearray",.ty "bytearray"),("enumerate",.ty "enumerate")]
@[irreducible] noncomputable def ao9:List Nat:=[21,36,121,128,135,142,149,180,194,215,236,257,278,290,295,300,307,314,319,326,333,340,347,354,361,398,405,412,419,424,431,445,452,459,466,480,494,501,508,515,522,529,536,543,550,564,569,574,581,588,603,612,619,643,650,657,664,671,678,685,702,709,716,723,730,737,744,751,758,765,772,786,796,814,821,828,835,856,863,870,877,898,912,917,924,931,938,945,952,959,966,971,978,983,990,996,1003,1010,1015,1022,1029,1034]
noncomputable def Hh(x:PySem.Str):List (String×Gl)->Option Gl
 |[]=>none
 |(n,g)::r=>match PySem.W.Fast.sEq (bj n) x with|true=>some g|false=>Hh x r
@[irreducible] def glF(x:PySem.Str):Option Gl:=Hh x (glL++Zw)
def Ji(f:Nat):Addr:=ao9.getD f 0
noncomputable def fdD:Data->Option FuncData
 | .func fd=>some fd
 |_=>none
def fdI(K:Frag)(i:Nat):Option FuncData:=(K.lookup (Ji i)).bind fun o=>fdD o.data
noncomputable def MJ:FuncBody->List Stmt
 | .stmts b=>b
 |_=>[]
section
variable[Inhabited Tg]
@[irreducible] def bodyOf(P:aq)(i:Nat):Option Ss:=(fdI (Kc P) i).map fun fd=>(cSs glF ⟨u6 fd.scope.names,fd.scope.names⟩ 60 20 (MJ fd.body)).1
theorem ap0(P:aq):(dn 102).map (bodyOf P)=(Lk++sA).map (fun f=>some f.body):=by kernel_rfl
end
noncomputable def tkF:ai->Nat
 | .int _ t=>t
 | .str _ t=>t
 |_=>0
def ML(x:V)(v:ai):Bool:=match x with
 | .none=>v==.none
 | .bool b=>v==.bool b
 | .int i=>v==.int i (tkF v)
 | .str s=>v==.str s (tkF v)
 | .typ n=>v==.type n
 |_=>false
noncomputable def PV(f:V->ai->Bool):List V->List ai->Bool
 |[],vs=>vs.isEmpty
 |_::_,[]=>false
 |x::l,v::vs=>f x v&&PV f l vs
noncomputable def ap1:Data->Option (List ai)
 | .seq xs _=>some xs.toList
 |_=>none
noncomputable def ap2:ai->Option Addr
 | .ref a=>some a
 |_=>none
def UO(K:Frag)(v:ai):Option Obj:=(ap2 v).bind fun a=>K.lookup a
noncomputable def QS(x:V):Option (List V):=match x with
 | .tup l=>some l
 |_=>none
def PW(K:Frag)(x:V)(v:ai):Bool:=match QS x with
 |some l=>(UO K v).any fun o=>o.cls==.type "tuple"&&(ap1 o.data).any fun vs=>PV ML l vs
 |none=>ML x v
def QT(P:aq):PySem.Str->Option ai:=(Hd.H1 P).nsMap 3
def mbF(P:aq):PySem.Str->Option ai:=(Hd.H1 P).nsMap 0
def Zx(P:aq)(n:String):Gl->Bool
 | .val v=>(QT P (bj n)).any fun u=>PW (Kc P) v u
 | .fn f=>QT P (bj n)==some (.ref (Ji f))&&hU (Kc P) (.ref (Ji f))
 | .cls C=>QT P (bj n)==some (.ref C)&&hU (Kc P) (.ref C)
 | .blt b=>QT P (bj n)==none&&mbF P (bj n)==some (ED b)
 | .ty b=>QT P (bj n)==none&&mbF P (bj n)==some (.type b)
theorem ap3(P:aq):(glL++Zw).all (fun e=>Zx P e.1 e.2)=true:=by kernel_rfl
def Zy:List Addr:=K7.map ar
theorem UP(P:aq):Zy.all (Bx (Kc P))=true:=by kernel_rfl
def Zz(K:Frag)(e:Nat×Nat):Bool:=makesIn K e.1&&eP K (.ref e.1) "__init__"==some (some (.ref (Ji e.2)))&&lC K (.ref (Ji e.2))==some (.type "function")
theorem ap4(P:aq):K7.all (Zz (Kc P))=true:=by kernel_rfl
def ZA(K:Frag)(e:Nat×Nat×Nat):Bool:=Nat.blt e.2.1 76&&eP K (.ref e.1) (AT e.2.1)==some (some (.ref (Ji e.2.2)))&&lC K (.ref (Ji e.2.2))==some (.type "function")&&hU K (.ref (Ji e.2.2))
theorem ap5(P:aq):Qr.all (ZA (Kc P))=true:=by kernel_rfl
def ap6(K:Frag)(e:Nat×Nat×V):Bool:=(eP K (.ref e.1) (AT e.2.1)).any fun a=>a.any fun a=>jJ K a "__get__"==some none&&ML e.2.2 a
theorem ap7(P:aq):attrL.all (ap6 (Kc P))=true:=by kernel_rfl
noncomputable def Hi(n:Nat)(l:List Obj):Frag->List (Option Obj):=bN (motive:=fun J=>Nat->Frag->List (Option Obj)) (fun J K=>K.map fun J=>none) (fun o J r n K=>match K with
 |[]=>[]
 |e::K'=>match bQ e.1 n with|true=>gW ⟨#[o],{}⟩ 0::r (n+1) K'|false=>r (n+1) (e::K')) l n
theorem ap8(P:aq):Hi 0 (Hd.H1 P).objs.toList (Kc P)=(Kc P).map fun e=>some e.2:=by kernel_rfl
theorem ap9(P:aq):(Kc P).all (fun e=> !bQ e.1 3&& !bQ e.1 0)=true:=by kernel_rfl
def dflt(K:Frag):ai->Option (List ai×Option (Array ai))
 | .none=>some ([],none)
 |v=>(UO K v).bind fun o=>match o.data with
  | .seq xs _=>some (xs.toList,some xs)
  |_=>none
noncomputable def isS:FuncBody->Bool
 | .stmts _=>true
 |_=>false
def QU(K:Frag)(fd:FuncData):Bool:=(UO K fd.code).any fun o=>match o.data with
 | .fields vs=>(vs[1]?).any fun v=>v==.str fd.qualname (tkF v)
 |_=>false
noncomputable def fnT(K:Frag)(i:Nat)(fn:Fn):Bool:=(K.lookup (Ji i)).any fun o=>(fdD o.data).any fun fd=>E3 fd&&isS fd.body&&QU K fd&&((dflt K fd.defaults).any fun d=>fk d.1.length fd.params.args.length&&PV (PW K) fn.dv d.1)&&
 bQ fn.n (u6 fd.scope.names).length&&OJ (u6 fd.scope.names) (fd.params.args.map (·.arg))==some fn.ps
noncomputable def allI(t:Nat->Fn->Bool):Nat->List Fn->Bool
 |_,[]=>true
 |i,f::l=>t i f&&allI t (i+1) l
theorem aq0(P:aq):allI (fnT (Kc P)) 0 (Lk++sA)=true:=by kernel_rfl
def ZC(K:Frag)(i:Nat):Option (List ((Nat->ai)->Sem (List (PySem.Str×ai)))):=(fdI K i).bind fun fd=>(dflt K fd.defaults).map fun d=>bdL fd d.1 d.2
def ZD(K:Frag)(i:Nat):Option (List ((Nat->ai)->Sem (List (PySem.Str×ai)))):=(fdI K i).bind fun fd=>(dflt K fd.defaults).map fun d=>bdR fd d.1
theorem bds(P:aq):(dn 102).map (ZC (Kc P))=(dn 102).map (ZD (Kc P)):=by kernel_rfl
theorem QW{a b:Bool}(h:(a&&b)=true):a=true/\b=true:=(aR a b).mp h
theorem PX:∀(l:List Obj) (n:Nat) (K:Frag),Hi n l K=K.map (fun e=>some e.2)->∀e∈K,n<=e.1/\∃o,l[e.1 - n]? =some o/\gW ⟨#[o],{}⟩ 0=some e.2:=by
 intro l;induction l with
 |nil=>intro n K h e he;cases K with
  |nil=>cases he
  |cons a K=>exact nomatch (eX h).1
 |cons o l ih=>intro n K h e he;cases K with
  |nil=>cases he
  |cons a K=>
   have up:∀{e:Addr×Obj},(n+1<=e.1/\∃o,l[e.1 - (n+1)]? =some o/\gW ⟨#[o],{}⟩ 0=some e.2)->n<=e.1/\∃z,(o::l)[e.1 - n]? =some z/\gW ⟨#[z],{}⟩ 0=some e.2:=fun{e} x=>⟨cq x.1,by rw[show e.1 - n=e.1 - (n+1)+1 from(d8 (gX (by rw[bk];exact x.1))).symm];exact x.2⟩;have h:(match bQ a.1 n with|true=>gW ⟨#[o],{}⟩ 0::Hi (n+1) l K|false=>Hi (n+1) l (a::K))=some a.2::K.map (fun e=>some e.2):=h;cases hb:bQ a.1 n with
   |false=>rw[hb]at h;exact up (ih _ (a::K) h e he)
   |true=>
    rw[hb]at h;have hn:=eD hb;rcases aA.mp he with rfl|he
    ·exact⟨cj hn.symm,o,by rw[hn,gh];rfl,(eX h).1⟩
    ·exact up (ih _ K (eX h).2 e he)
theorem lookup_mem{α:Type}{a:Nat}{x:α}:∀{K:List (Nat×α)},K.lookup a=some x->(a,x)∈K:=by
 intro K;induction K with
 |nil=>exact fun h=>nomatch h
 |cons e K ih=>
  intro h;obtain⟨b,y⟩:=e;rw[dE]at h;cases hb:a==b with
  |true=>rw[hb]at h;obtain rfl:=gq hb;cases h;exact .head _
  |false=>rw[hb]at h;exact .tail _ (ih h)
theorem UQ{P:aq}{a:Addr}{o:Obj}(h:(Kc P).lookup a=some o):(Hd.H1 P).get? a=some o/\a≠3/\a≠0:=by
 have m:=lookup_mem h;obtain⟨_,o',z,z2⟩:=PX _ _ _ (ap8 P) _ m;have z:(Hd.H1 P).get? a=some o:=by have e:(Hd.H1 P).objs[a]? =some o':=(dH ..).symm.trans z;unfold gW at z2 ⊢;rw[e];exact z2
 have n:=bS.mp (ap9 P) _ m;simp only[aR,dT]at n;exact⟨z,j5 n.1,j5 n.2⟩
theorem MM(P:aq):(Hd.H1 P).isNs 3=true/\(Hd.H1 P).isNs 0=true/\(Hd.H1 P).isNs 2=true/\(Hd.H1 P).nsMap 2 "sys.recursionlimit"=none/\((Hd.H1 P).get? 1).isSome=true:=⟨by kernel_rfl,by kernel_rfl,by kernel_rfl,by kernel_rfl,by kernel_rfl⟩
theorem PY{x:PySem.Str}{g:Gl}:∀{l:List (String×Gl)},Hh x l=some g->∃n,(n,g)∈l/\bj n=x:=by
 intro l;induction l with
 |nil=>exact fun h=>nomatch h
 |cons e l ih=>
  intro h;obtain⟨n,g'⟩:=e;have h:(match PySem.W.Fast.sEq (bj n) x with|true=>some g'|false=>Hh x l)=some g:=h;cases hb:PySem.W.Fast.sEq (bj n) x with
  |true=>rw[hb]at h;cases h;exact⟨n,.head _,Fast.sEq_iff.mp hb⟩
  |false=>rw[hb]at h;obtain⟨m,a,b⟩:=ih h;exact⟨m,.tail _ a,b⟩
theorem El{P:aq}{x:PySem.Str}{g:Gl}(e:glF x=some g):∃n,bj n=x/\Zx P n g=true:=by unfold glF at e;obtain⟨n,m,r⟩:=PY e;exact⟨n,r,bS.mp (ap3 P) _ m⟩
theorem Jb{b x:Nat}:∀{l:List (Nat×Nat)},GR l b=some x->(b,x)∈l:=by
 intro l;induction l with
 |nil=>exact fun h=>nomatch h
 |cons e l ih=>
  intro h;obtain⟨a,y⟩:=e;have h:(if bQ a b then some y else GR l b)=some x:=h;cases hb:bQ a b with
  |true=>rw[hb]at h;obtain rfl:=eD hb;cases h;exact .head _
  |false=>rw[hb]at h;exact .tail _ (ih h)
theorem Br{α:Type}{b j:Nat}{x:α}:∀{l:List (Nat×Nat×α)},find3 l b j=some x->(b,j,x)∈l:=by
 intro l;induction l with
 |nil=>exact fun h=>nomatch h
 |cons e l ih=>
  intro h;obtain⟨a,k,y⟩:=e;have h:(if bQ a b&&bQ k j then some y else find3 l b j)=some x:=h;cases hb:bQ a b&&bQ k j with
  |true=>rw[hb]at h;obtain rfl:=eD (QW hb).1;obtain rfl:=eD (QW hb).2;cases h;exact .head _
  |false=>rw[hb]at h;exact .tail _ (ih h)
theorem PZ{t:Nat->Fn->Bool}{i:Nat}{fn:Fn}:∀{l:List Fn} {n:Nat},allI t n l=true->l[i]? =some fn->t (n+i) fn=true:=by
 induction i with
 |zero=>intro l n e h;cases l with
  |nil=>cases h
  |cons a l=>cases h;exact(QW e).1
 |succ i ih=>intro l n e h;cases l with
  |nil=>cases h
  |cons a l=>rw[<-aQ,iI];exact ih (QW e).2 h
section
variable[Inhabited Tg]
def BB(P:aq):Bs:=⟨fun a=>if a=LL then none else(Hd.H1 P).get? a,(Hd.H1 P).nsMap LL,fun C=>C∈Zy⟩
variable{P:aq}(hL:LL=3\/LL=0){h:bp}
include hL
theorem kbF:xG (Kc P) (BB P):=fun a o e=>by have k:=UQ e;exact(if_neg fun z=>hL.elim (fun y=>k.2.1 (z.trans y)) fun y=>k.2.2 (z.trans y)).trans k.1
theorem k_in(S:HI (BB P) h){a:Addr}{o:Obj}(e:(Kc P).lookup a=some o):h.get? a=some o:=S _ _ (kbF hL _ _ e)
omit hL in
theorem Em{a:Addr}(x:(Hd.H1 P).isNs a=true)(S:HI (BB P) h)(g:h.Ns LL (BB P).mg):h.Ns a ((Hd.H1 P).nsMap a):=by
 by_cases z:a=LL
 ·exact z▸g
 ·obtain⟨o,es,ep,ho,r⟩:=fZ x;exact⟨o,es,ep,S a o ((if_neg z).trans ho),r⟩
omit hL in
theorem Cw{x:V}{v:ai}(e:ML x v=true):VR h x v:=by unfold ML at e;cases x<;>first|exact beq_iff_eq.mp e|exact⟨_,beq_iff_eq.mp e⟩|cases e
omit hL in
theorem Hj{f:V->ai->Bool}(hf:∀x v,f x v=true->VR h x v):∀{l:List V} {vs:List ai},PV f l vs=true->qv h l vs:=by
 intro l;induction l with
 |nil=>intro vs e;exact mm.mp e
 |cons x l ih=>intro vs e;cases vs with
  |nil=>cases e
  |cons v vs=>exact⟨_,_,rfl,hf _ _ (QW e).1,ih (QW e).2⟩
theorem Hk(S:HI (BB P) h){x:V}{v:ai}(e:PW (Kc P) x v=true):VR h x v:=by
 unfold PW at e;cases hx:QS x with
 |none=>rw[hx]at e;exact Cw e
 |some l=>
  rw[hx]at e;obtain⟨o,ho,e⟩:=fh e;obtain⟨a,ha,ho⟩:=cg.mp ho;obtain⟨vs,hv,q⟩:=fh (QW e).2;have hv2:v=.ref a:=by cases v<;>first|exact au ha▸rfl|cases ha
  have hx2:x=.tup l:=by cases x<;>first|exact au hx▸rfl|cases hx
  have hd:∃n,o.data=.seq vs.toArray n:=by cases hd:o.data<;>rw[hd]at hv<;>first|(cases hv;exact⟨_,by rw[Array.toArray_toList]⟩)|cases hv
  rw[hv2,hx2];exact⟨a,vs,rfl,fun z=>(UQ ho).2.1.elim (hL.elim (fun y=>z.trans y) fun y=>absurd (z.trans y) (UQ ho).2.2),⟨o,k_in hL S ho,beq_iff_eq.mp (QW e).1,hd⟩,Hj (fun J J=>Cw) q⟩
omit hL in
end
theorem UR:(Lk++sA).length=102:=by kernel_rfl
section
variable[Inhabited Tg]
def cc(w:aP):Cfg:=⟨PySem.Challenge.pw_sq0080_02,w,BB w.params,Kc w.params,Th,glF,Ji,fun J J J J J=>False,QT w.params⟩
variable{w:aP}(hL:LL=3\/LL=0){h:bp}
include hL
theorem P0{P:aq}(S:HI (BB P) h){fd:FuncData}(e:QU (Kc P) fd=true):h.CodeRec fd.code fd.qualname:=by
 obtain⟨o,ho,e⟩:=fh e;obtain⟨a,ha,ho⟩:=cg.mp ho;have hc:fd.code=.ref a:=by revert ha;cases fd.code<;>intro ha<;>first|exact au ha▸rfl|cases ha
 cases hd:o.data<;>rw[hd]at e<;>first|(obtain⟨v,hv,e⟩:=fh e;exact⟨a,o,_,_,hc,k_in hL S ho,hd,hv.trans (congrArg some (beq_iff_eq.mp e))⟩)|cases e
theorem US{P:aq}{v:ai}{d:List ai×Option (Array ai)}(e:dflt (Kc P) v=some d):(v=.none/\d.2=none)\/∃T ot k xs,v=.ref T/\(BB P).get T=some ot/\ot.data=.seq xs k/\d.2=some xs:=by
 cases v<;>first|(cases e;exact .inl ⟨rfl,rfl⟩)|cases e|skip
 rename_i a;obtain⟨o,ho,e⟩:=cg.mp e;cases hd:o.data<;>rw[hd]at e<;>first|(cases e;exact .inr ⟨a,o,_,_,rfl,kbF hL _ _ ho,hd,rfl⟩)|cases e
theorem ZE{f:Nat}{fn:Fn}(e:pB sA f=some fn):Xe (cc w) f fn:=by
 have t:=PZ (aq0 w.params) e;rw[cJ]at t;obtain⟨o,ho,t⟩:=fh t;obtain⟨fd,hf,t⟩:=fh t;simp only[aR]at t;obtain⟨⟨⟨⟨⟨t1,t2⟩,t3⟩,t4⟩,t5⟩,t6⟩:=t;obtain⟨d,hd,t4⟩:=fh t4;have hod:o.data=.func fd:=by revert hf;cases o.data<;>intro hf<;>first|(cases hf;rfl)|cases hf
 have hl:f<102:=by have:=(bK.mp e).1;rwa[UR]at this
 have hi:fdI (Kc w.params) f=some fd:=cg.mpr ⟨o,ho,hf⟩;have b:=congrArg (fun l=>l[f]?) (ap0 w.params);simp only[bO,List.getElem?_range hl]at b;rw[show(Lk++sA)[f]? =some fn from e]at b;have b:=au b;unfold bodyOf at b;rw[hi]at b;have q:=lV.mp (bds w.params) f (dG.mpr hl);unfold ZC ZD at q;rw[hi,eQ,eQ,hd]at q;have hb:fd.body=.stmts (MJ fd.body):=by revert t2;cases fd.body<;>intro t2<;>first|rfl|cases t2
 exact .mk o fd (MJ fd.body) 60 20 d.1 (kbF hL _ _ ho) hod hb t1 (fun h S=>P0 hL S t3) d.2 (US hL hd) (au q) (av (u9 t4).1) (eD t5) (beq_iff_eq.mp t6) (fun h S=>Hj (fun J J=>Hk hL S) (u9 t4).2) (au b).symm
theorem tabs:OK (cc w) (pB sA) where
 kb:=kbF hL
 tb:=⟨fun C m=>JW (bS.mp (UP w.params) C m),fun C k x J e=>by
  have t:=bS.mp (ap7 w.params) _ (Br e)
  obtain⟨a,ha,t⟩:=fh t
  obtain⟨a',rfl,t⟩:=fh t
  exact⟨a',ha,beq_iff_eq.mp (u9 t).1,fun h J=>Cw (u9 t).2⟩⟩
 sm:=by
  have e:=(MM w.params).2.2.2.2
  have n:dq≠LL:=fun z=>hL.elim (fun y=>nomatch (z.trans y:(1:Nat)=3)) fun y=>nomatch (z.trans y:(1:Nat)=0)
  intro z
  have z:(Hd.H1 w.params).get? 1=none:=(if_neg n).symm.trans z
  rw[z]at e
  cases e
 main:=fun h S g=>Em (MM w.params).1 S g
 val:=fun x v e=>by
  obtain⟨n,rfl,t⟩:=El (P:=w.params) e
  obtain⟨u,hu,t⟩:=fh t
  exact⟨u,hu,fun h S=>Hk hL S t⟩
 fn:=fun x f e=>by
  obtain⟨n,rfl,t⟩:=El (P:=w.params) e
  exact⟨beq_iff_eq.mp (u9 t).1,(u9 t).2⟩
 blt:=fun x b e=>by
  obtain⟨n,rfl,t⟩:=El (P:=w.params) e
  exact⟨beq_iff_eq.mp (u9 t).1,_,fun h S g=>⟨Em (MM w.params).1 S g,Em (MM w.params).2.1 S g⟩,beq_iff_eq.mp (u9 t).2⟩
 ty:=fun x n e=>by
  obtain⟨n,rfl,t⟩:=El (P:=w.params) e
  exact⟨beq_iff_eq.mp (u9 t).1,_,fun h S g=>⟨Em (MM w.params).1 S g,Em (MM w.params).2.1 S g⟩,beq_iff_eq.mp (u9 t).2⟩
 cls:=fun x C e=>by
  obtain⟨n,rfl,t⟩:=El (P:=w.params) e
  exact⟨beq_iff_eq.mp (u9 t).1,(u9 t).2⟩
 new:=fun C f e=>by
  have m:=Jb e
  have t:=bS.mp (ap4 w.params) _ m
  simp only[Zz,aR,beq_iff_eq]at t
  exact⟨aY.mpr ⟨_,m,rfl⟩,t.1.1,t.1.2,t.2⟩
 pD:=fun C k g J e=>by
  have t:=bS.mp (ap5 w.params) _ (Br e)
  simp only[ZA,aR,beq_iff_eq]at t
  exact⟨av t.1.1.1,t.1.1.2,t.1.2,t.2⟩
 lim:=fun h S=>by
  obtain⟨o,es,ep,ho,r⟩:=fZ (MM w.params).2.2.1
  have n:(2:Nat)≠LL:=fun z=>hL.elim (fun y=>nomatch z.trans y) fun y=>nomatch z.trans y
  exact⟨_,⟨o,es,ep,S _ _ ((if_neg n).trans ho),r⟩,(MM w.params).2.2.2.1⟩
 fns:=fun f fn e=>ZE hL e
end
def P1(w:aP)(h:bp):Prop:=∀b o,(Hd.H1 w.params).get? b=some o->h.get? b=some o
theorem P2(P:aq):(Hd.H1 P).objs.toList.all (fun o=> !(o.cls==.type "list"))=true:=by kernel_rfl
theorem UT(P:aq):QT P "law"=some (.ref (Ji 101)):=by kernel_rfl
def UU:DefRec×List (Str×Expr):=(defOf Hd.q "law").getD ⟨⟨"",default,[],default,⟨0,0,0,0⟩⟩,[]⟩
theorem UW:UU.1.name="law":=by kernel_rfl
theorem UX{P:aq}{b:Addr}{o:Obj}(e:(Hd.H1 P).get? b=some o):o.cls≠.type "list":=by
 unfold gW at e;split at e
 ·cases e
 ·have m:=cv ((dH ..).trans e);have t:=bS.mp (P2 P) _ m;intro z;rw[z]at t;cases t
theorem Jc{P:aq}{h:bp}{a:Addr}{xs:List WData}(x:Well P h (.ref a) (.list xs)):∃vs,h.get? a=some (listOf (c9 vs) 0):=by cases x;exact⟨_,by assumption⟩
def H0(sl:Addr)(xs:List Int)(vs:List ai):MH:=fun b=>if b=sl then some (.rl (iL xs) vs 0)else none
section
variable{w:aP}{s:Shared}{sl:Addr}{xs:List Int}{vs:List ai}{b:Addr}
theorem En{o:O}(e:H0 sl xs vs b=some o):b=sl/\o=.rl (iL xs) vs 0:=by
 unfold H0 at e;split at e
 ·exact⟨by assumption,(au e).symm⟩
 ·cases e
theorem ZF[Inhabited Tg]{h:bp}(x:Own (H0 sl xs vs) h b):b=sl:=by
 rcases x with x|⟨a,C,f,e,_⟩
 ·unfold H0 at x;split at x
  ·assumption
  ·exact absurd rfl x
 ·have:=(En e).2;cases this
theorem aq1[Inhabited Tg](hL:LL=3\/LL=0)(Y:P1 w s.heap)(e:s.heap.get? sl=some (listOf (c9 vs) 0))(hI:iA vs xs):Rel w.params (BB w.params) (H0 sl xs vs) s.heap:=by
 have no:∀b o,(Hd.H1 w.params).get? b=some o->¬Own (H0 sl xs vs) s.heap b:=fun b o g x=>by obtain rfl:=ZF x;have z:=Y _ _ g;rw[e]at z;cases z;exact UX g rfl
 obtain⟨o,es,ep,ho,r⟩:(Hd.H1 w.params).Ns LL ((Hd.H1 w.params).nsMap LL):=hL.elim (fun z=>z.symm▸fZ (MM w.params).1) fun z=>z.symm▸fZ (MM w.params).2.1;exact⟨fun a o g=>by obtain⟨rfl,rfl⟩:=En g;exact⟨e,y9 hI⟩,fun b o g=>by
   have g:(if b=LL then none else(Hd.H1 w.params).get? b)=some o:=g;split at g
   ·cases g
   ·exact⟨Y _ _ g,no _ _ g⟩,⟨o,es,ep,Y _ _ ho,r⟩,no _ _ ho,if_pos rfl,fun a C f d g=>(by have:=(En g).2;cases this),fun a b C f C' f' d g=>(by have:=(En g).2;cases this),fun a C f g=>(by have:=(En g).2;cases this)⟩
theorem ZG[h:Inhabited Tg](hL:LL=3\/LL=0)(Y:P1 w s.heap)(e:s.heap.get? sl=some (listOf (c9 vs) 0))(hI:iA vs xs)(hl:xs.length<=63):
  eB (aD PySem.Challenge.pw_sq0080_02 w) callerA (.call (.ref (Ji 101)) ⟨[.ref sl],[]⟩) (nP (fun v s'=>v=.bool true/\s'.os=s.os/\s'.gens=s.gens/\∀b o,b≠LL->s.heap.get? b=some o->s'.heap.get? b=some o) fun J J=>False) s:=by
 refine fy (E5 (tabs hL) (ai2 (cc w)) 13 callerA ⟨rfl,by decide,by decide⟩ 101 [.ref sl] [.ref sl] (H0 sl xs vs) s (fun v H'=>v=.bool true/\H' sl=some (.rl (iL xs) vs 0)) (fun J J=>False) (aq1 hL Y e hI) ⟨_,_,rfl,rfl,rfl⟩ (UJ (aF _) (if_pos rfl) (ae hl ⋯) fun H' z=>⟨rfl,z⟩)) fun r s' k=>?_;cases r with
 |error=>exact k
 |ok f=>cases f with
  |ret v=>
   obtain⟨x,H',r,R,N,rfl,z⟩:=k;refine⟨r,N.os,N.gens,fun b o g eb=>?_⟩;by_cases hb:b=sl
   ·subst hb;rw[e]at eb;cases eb;exact(R.obj _ _ z).1
   ·exact(N.keep b o g id eb fun x=>hb (ZF x)).1
  |_=>exact k
end
theorem walk:WalkO Hd.q Hd.loose (fun J J=>True) P1 Hd.rw2.row.toRowW UU.1 UU.2 fun f vs=>PySem.call f vs:=by
 intro w ax8 qL mg mb G Y fa o pm cd doc dV kV ho hd hcd hD hmg hg args vals as aq2 aq3 hrd hwl hlo;have e1:mg=QT w.params:=G.T.g.eq_nsMap.trans (Heap.Ns.eq_nsMap (by obtain⟨o,es,ep,ho,r⟩:=fZ (MM w.params).1;exact⟨o,es,ep,Y _ _ ho,r⟩)).symm;rw[e1,UW,UT]at hmg;cases hmg;wrow_args aq2 aq3 hrd hwl hlo;have w1:=‹Well _ _ (.ref _) _›;obtain⟨vs,e⟩:=Jc w1;obtain⟨o',g1,_,n,g2⟩:=‹qL.heap.IsList _ _›;have hI:=‹iA _ _›;rw[e]at g1;cases g1;injection g2 with g2 _
 cases congrArg Array.toList g2;have hl:=bq.mp<|bJ.mp ‹¬(_:Int)<_›;refine enter_call fun Γ p c1 c2=>?_;have x1:=ZG (h:=⟨⟨3⟩⟩) (.inl rfl) Y e hI hl Γ p c1 c2;have x2:=ZG (h:=⟨⟨0⟩⟩) (.inr rfl) Y e hI hl Γ p c1 c2;obtain⟨r,s',a,k1,k2⟩:=Dt.Jl x1 x2;refine⟨r,s',a,?_⟩;cases r with
 |error=>exact k1.elim
 |ok f=>cases f with
  |ret v=>
   obtain⟨rfl,o1,n1,q1⟩:=k1;obtain⟨_,_,_,q2⟩:=k2;refine⟨.inl ⟨_,_,[],rfl,raisesW_false (fun ct z=>nomatch z),.bool true,?_,fun J=>⟨.nil,fun a z=>nomatch z⟩⟩,.of_keep fun b o eb=>?_,o1,.of_eq (n1.trans hg)⟩
   ·exact postW_of rfl (by wtm_val) rfl
   ·by_cases hb:b=3
    ·exact q2 b o (by rw[hb];decide) eb
    ·exact q1 b o hb eb
  |_=>exact k1.elim
theorem left:LeftO Hd.pw Hd.q Hd.loose (fun J=>true) (fun s=>s.heap) (fun w=>Hd.H1 w.params) 20000:=
 LeftO.of_pieces (H₀:=fC) (H₁:=Hd.H1) (gs₀:= #[]) (gs₁:= #[]) (d₀:=kM) (d₁:={}) (k₀:=lK) (k₁:=1793) (m₀:=11) (ann:=some (.ref 6)) Hd.PT Hd.PU Hd.run (by decide+kernel)
  (fun w=>funext fun os=>Prod.ext (Hd.Zu w os) (Prod.ext (Hd.Zv w os) rfl))
end Mine.Internal
open PySem PySem.W PySem.Calls PyProof.Rows
theorem PySem.Challenge.cw_sq0080_02_holds : PySem.Challenge.rw_sq0080_02.Holds :=
 holds_law Mine.Internal.Hd.ao8 fun k1=>holds_open (r:=PySem.Challenge.rw_sq0080_02.row) (q:=Mine.Internal.Hd.q) (loose:=Mine.Internal.Hd.loose) (Xt:=fun J=>true) (XP:=fun J J=>True) (Yf:=fun s=>s.heap) (Ya:=fun w=>Mine.Internal.Hd.H1 w.params) (YP:=Mine.Internal.P1)
  Mine.Internal.left (fun w s e b o h=>by rw[show s.heap=Mine.Internal.Hd.H1 w.params from e];exact h) (fun w h h' x k b o e=>k b o (x b o e)) (fun J J=>trivial) (fun J J J J J=>trivial)
  (by kernel_rfl) (by kernel_rfl) (by kernel_rfl) (fun s J=>recFacts_nil rfl) rfl k1 (by decide+kernel) ⟨rfl,rfl,rfl,rfl,rfl,by decide+kernel⟩ (by w_witness2) Mine.Internal.walk
